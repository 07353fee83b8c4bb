import PyProof.Rows.All
import Wide.All
import OpenK.AllK
import Wide.FinOn
import PySem.Challenge.RW_rh0060_01
open PySem PySem.W PySem.Calls PyProof.Rows PyProof.V PySem.Spec
set_option Elab.async false

namespace Mine

/-! joins: the ways of a call or a loop, met in one -/

/-- what a call of the list maker gives: a new list of ints -/
def JCoins (h₀ : Heap) (L : Addr) (m : Str → Option Value) (news : List (Addr × Obj)) (s : Shared) (v : Value) (s₂ : Shared) : Prop :=
  ∃ (l : Addr) (vs : List Value) (ns : List Int) (n : Nat) (h : Heap) (tk : Nat), v = .ref l ∧ s₂ = { s with heap := h, toks := tk } ∧ IntsAre vs ns ∧ ns.length ≤ 2000 ∧ Fr h₀ L h m ∧
    News h₀ L h ((l, listOf vs.toArray n) :: news) ∧ (∀ p ∈ news, p.1 < l)

theorem jn_coins {M : Model} {A : Around} {E : Value → Shared → Prop} {Q : Value → Shared → Prop} {s : Shared} {h₀ : Heap} {L : Addr} {m : Str → Option Value} {news : List (Addr × Obj)} {c : Sem Value}
    (_F : Fr h₀ L s.heap m) (_N : News h₀ L s.heap news)
    (hc : wpAny M A c (JCoins h₀ L m news s) E s)
    (hk : ∀ (l : Addr) (vs : List Value) (ns : List Int) (n : Nat) (h : Heap) (tk : Nat), IntsAre vs ns → ns.length ≤ 2000 → Fr h₀ L h m → News h₀ L h ((l, listOf vs.toArray n) :: news) → (∀ p ∈ news, p.1 < l) →
      Q (.ref l) { s with heap := h, toks := tk }) : wpAny M A c Q E s := by
  refine wpAny_mono hc (fun v s₂ hq => ?_) fun _ _ h => h
  obtain ⟨l, vs, ns, n, h, tk, rfl, rfl, a, b, c, d, e⟩ := hq
  exact hk l vs ns n h tk a b c d e

/-- what a draw does: an int below its sides; the list is no longer than it was -/
def JCoin (h₀ : Heap) (L : Addr) (m : Str → Option Value) (f : Obj → List (Addr × Obj)) (k : Int) (b : Nat) (s : Shared) (v : Value) (s₂ : Shared) : Prop :=
  ∃ (r : Int) (t : Tok) (vs : List Value) (ns : List Int) (n : Nat) (h : Heap) (tk : Nat), v = .int r t ∧ s₂ = { s with heap := h, toks := tk } ∧ 0 ≤ r ∧ r < k ∧ IntsAre vs ns ∧ ns.length ≤ b ∧ Fr h₀ L h m ∧
    News h₀ L h (f (listOf vs.toArray n))

theorem jn_coin {M : Model} {A : Around} {E : Value → Shared → Prop} {Q : Value → Shared → Prop} {s : Shared} {h₀ : Heap} {L : Addr} {m : Str → Option Value} {news : List (Addr × Obj)}
    {l fa : Addr} {vs : List Value} {ns : List Int} {n : Nat} {f : Obj → List (Addr × Obj)} {k : Int} {u : Tok}
    (_F : Fr h₀ L s.heap m) (_N : News h₀ L s.heap news) (_U : UpdF l (listOf vs.toArray n) news f) (_hi : IntsAre vs ns) (_hb : ns.length ≤ 2000)
    (hc : wpAny M A (call (.ref fa) [.ref l, .int k u]) (JCoin h₀ L m f k 2000 s) E s)
    (hk : ∀ (r : Int) (t : Tok) (vs : List Value) (ns : List Int) (n : Nat) (h : Heap) (tk : Nat), 0 ≤ r → r < k → IntsAre vs ns → ns.length ≤ 2000 → Fr h₀ L h m → News h₀ L h (f (listOf vs.toArray n)) →
      Q (.int r t) { s with heap := h, toks := tk }) : wpAny M A (call (.ref fa) [.ref l, .int k u]) Q E s := by
  refine wpAny_mono hc (fun v s₂ hq => ?_) fun _ _ h => h
  obtain ⟨r, t, vs, ns, n, h, tk, rfl, rfl, a, b, c, d, e, g⟩ := hq
  exact hk r t vs ns n h tk a b c d e g

/-- what an inner loop does: two names turn, one list of ints grows by twenty at the most -/
def JIn (x y : Str) (h₀ : Heap) (L : Addr) (m : Str → Option Value) (f : Obj → List (Addr × Obj)) (b : Nat) (s : Shared) (fl : Flow) (s₂ : Shared) : Prop :=
  ∃ (u v : Option Value) (vs : List Value) (ns : List Int) (n : Nat) (h : Heap) (tk : Nat), fl = .next ∧ s₂ = { s with heap := h, toks := tk } ∧ IntsAre vs ns ∧ ns.length ≤ b ∧
    Fr h₀ L h (fun z => if z = x then u else if z = y then v else m z) ∧ News h₀ L h (f (listOf vs.toArray n))

theorem jn_in {M : Model} {A : Around} {E : Value → Shared → Prop} {Q : Flow → Shared → Prop} {s : Shared} {h₀ : Heap} {L : Addr} {m : Str → Option Value} {news : List (Addr × Obj)} {c : Sem Flow}
    {l : Addr} {vs : List Value} {ns : List Int} {n : Nat} {f : Obj → List (Addr × Obj)} (x y z : Str)
    (_F : Fr h₀ L s.heap m) (_hl : m z = some (.ref l)) (_N : News h₀ L s.heap news) (_U : UpdF l (listOf vs.toArray n) news f) (_hi : IntsAre vs ns)
    (hc : wpAny M A c (JIn x y h₀ L m f (ns.length + 20) s) E s)
    (hk : ∀ (u v : Option Value) (vs' : List Value) (ns' : List Int) (n : Nat) (h : Heap) (tk : Nat), IntsAre vs' ns' → ns'.length ≤ ns.length + 20 →
      Fr h₀ L h (fun z => if z = x then u else if z = y then v else m z) → News h₀ L h (f (listOf vs'.toArray n)) →
      Q .next { s with heap := h, toks := tk }) : wpAny M A c Q E s := by
  refine wpAny_mono hc (fun v s₂ hq => ?_) fun _ _ h => h
  obtain ⟨u, v, vs, ns, n, h, tk, rfl, rfl, a, b, c, d⟩ := hq
  exact hk u v vs ns n h tk a b c d

theorem jIn_end {x y : Str} {h₀ : Heap} {L : Addr} {m m' : Str → Option Value} {f : Obj → List (Addr × Obj)} {b : Nat} {s : Shared} {vs : List Value} {ns : List Int} {n : Nat} {h : Heap} {tk : Nat} {news : List (Addr × Obj)}
    (hi : IntsAre vs ns) (hb : ns.length ≤ b) (F : Fr h₀ L h m') (hm : ∀ z, z ≠ x → z ≠ y → m' z = m z) (N : News h₀ L h news) (hn : ∀ p ∈ f (listOf vs.toArray n), p ∈ news) :
    JIn x y h₀ L m f b s .next { s with heap := h, toks := tk } := by
  refine ⟨m' x, m' y, vs, ns, n, h, tk, rfl, rfl, hi, hb, ?_, fun p hp => N p (hn p hp)⟩
  have e : (fun z => if z = x then m' x else if z = y then m' y else m z) = m' := by
    funext z
    by_cases h1 : z = x
    · rw [if_pos h1, h1]
    · rw [if_neg h1]
      by_cases h2 : z = y
      · rw [if_pos h2, h2]
      · rw [if_neg h2, hm z h1 h2]
  rw [e]
  exact F

theorem jIn_endP {x y : Str} {h₀ : Heap} {L : Addr} {m m' : Str → Option Value} {f : Obj → List (Addr × Obj)} {b : Nat} {s : Shared} {vs : List Value} {ns : List Int} {k : Int} {t : Tok} {n : Nat} {h : Heap} {tk : Nat} {news : List (Addr × Obj)}
    (F : Fr h₀ L h m') (N : News h₀ L h news) (hn : ∀ p ∈ f (listOf (vs.toArray.push (.int k t)) n), p ∈ news) (hi : IntsAre vs ns) (hb : ns.length + 1 ≤ b) (hm : ∀ z, z ≠ x → z ≠ y → m' z = m z) :
    JIn x y h₀ L m f b s .next { s with heap := h, toks := tk } :=
  jIn_end (vs := vs ++ [.int k t]) (ns := ns ++ [k]) (hi.append (.cons k t .nil)) (by rw [List.length_append]; exact hb) F hm N (by rw [← List.push_toArray]; exact hn)

theorem of_allLt {d : Addr} : ∀ {l : List (Addr × Obj)}, AllLt d l → ∀ p ∈ l, p.1 < d
  | [], _, _, hp => nomatch hp
  | _ :: _, h, q, hq => by
    rcases List.mem_cons.mp hq with rfl | hq
    · exact h.1
    · exact of_allLt h.2 q hq

theorem jCoins_end {h₀ : Heap} {L : Addr} {m : Str → Option Value} {news news' : List (Addr × Obj)} {s : Shared} {l : Addr} {vs : List Value} {ns : List Int} {n : Nat} {h : Heap} {tk : Nat}
    (N : News h₀ L h news') (hm : (l, listOf vs.toArray n) ∈ news') (hi : IntsAre vs ns) (hb : ns.length ≤ 2000) (F : Fr h₀ L h m) (hs : ∀ p ∈ news, p ∈ news') (hl : AllLt l news) :
    JCoins h₀ L m news s (.ref l) { s with heap := h, toks := tk } :=
  ⟨l, vs, ns, n, h, tk, rfl, rfl, hi, hb, F, fun p hp => N p (by rcases List.mem_cons.mp hp with rfl | hp; exact hm; exact hs p hp), of_allLt hl⟩

theorem jCoin_end {h₀ : Heap} {L : Addr} {m : Str → Option Value} {f : Obj → List (Addr × Obj)} {news' : List (Addr × Obj)} {s : Shared} {k r : Int} {b : Nat} {t : Tok} {vs : List Value} {ns : List Int} {n : Nat} {h : Heap} {tk : Nat}
    (N : News h₀ L h news') (hs : ∀ p ∈ f (listOf vs.toArray n), p ∈ news') (hi : IntsAre vs ns) (hb : ns.length ≤ b) (F : Fr h₀ L h m) (h0 : 0 ≤ r) (h1 : r < k) :
    JCoin h₀ L m f k b s (.int r t) { s with heap := h, toks := tk } :=
  ⟨r, t, vs, ns, n, h, tk, rfl, rfl, h0, h1, hi, hb, F, fun p hp => N p (hs p hp)⟩

theorem UpdF.same {d : Addr} {o : Obj} {l : List (Addr × Obj)} {g : Obj → List (Addr × Obj)} (U : UpdF d o l g) : g o = l := by
  obtain ⟨pre, post, rfl, hg, _, _⟩ := U.split
  exact hg o

theorem off1_ne {D a : Addr} {o : Obj} : ∀ {l : List (Addr × Obj)}, LCg.Off1 D l → (a, o) ∈ l → @Ne Nat a D
  | [], _, hm => nomatch hm
  | p :: _, h, hm => by
    rcases List.mem_cons.mp hm with e | hm
    · have := h.1
      rw [← e] at this
      exact this
    · exact off1_ne h.2 hm
theorem off3_1 {I C D a : Addr} {o : Obj} {l : List (Addr × Obj)} (h : LCg.Off3 I C D l) (hm : (a, o) ∈ l) : @Ne Nat a I := (h.mem _ hm).1
theorem off3_2 {I C D a : Addr} {o : Obj} {l : List (Addr × Obj)} (h : LCg.Off3 I C D l) (hm : (a, o) ∈ l) : @Ne Nat a C := (h.mem _ hm).2.1
theorem off3_3 {I C D a : Addr} {o : Obj} {l : List (Addr × Obj)} (h : LCg.Off3 I C D l) (hm : (a, o) ∈ l) : @Ne Nat a D := (h.mem _ hm).2.2
/-- three addresses apart, hidden from the arithmetic -/
def Ne3 (I C D : Addr) : Prop := (@Ne Nat I C) ∧ (@Ne Nat I D) ∧ (@Ne Nat C D)
theorem Ne3.ic {I C D : Addr} (h : Ne3 I C D) : @Ne Nat I C := h.1
theorem Ne3.id {I C D : Addr} (h : Ne3 I C D) : @Ne Nat I D := h.2.1
theorem Ne3.cd {I C D : Addr} (h : Ne3 I C D) : @Ne Nat C D := h.2.2

theorem off3_any {d : Addr} {o o₁ : Obj} {l : List (Addr × Obj)} {f : Obj → List (Addr × Obj)} {I C D : Addr} (U : UpdF d o l f) (h : LCg.Off3 I C D (f o₁)) : ∀ o₂, LCg.Off3 I C D (f o₂) := by
  intro o₂
  obtain ⟨pre, post, _, hg, _, _⟩ := U.split
  rw [hg] at h ⊢
  have k := h.mem
  refine LCg.Off3.of fun p hp => ?_
  rcases List.mem_append.mp hp with hp | hp
  · exact k p (List.mem_append.mpr (.inl hp))
  · rcases List.mem_cons.mp hp with rfl | hp
    · exact k (d, o₁) (List.mem_append.mpr (.inr (.head _)))
    · exact k p (List.mem_append.mpr (.inr (.tail _ hp)))

theorem pos_of_ne {us : List Value} {l : List Int} (hi : IntsAre us l) (h : decide (l = []) = false) : 0 < us.length := by
  have e := hi.length
  have h' := of_decide_eq_false h
  have := List.length_pos_iff.mpr h'
  omega

theorem size_of {us : List Value} {l : List Int} (hi : IntsAre us l) (h : l.length ≤ 2000) : us.length ≤ sizeLine := by
  have e := hi.length
  rw [PySem.sizeLine_eq]
  omega

/-! the block whose element draws a coin -/
def CEl (f : Obj → List (Addr × Obj)) (y : Value) (news' : List (Addr × Obj)) : Prop :=
  ∃ (r : Int) (t : Tok) (vs : List Value) (ns : List Int) (n : Nat), y = .int r t ∧ news' = f (listOf vs.toArray n) ∧ IntsAre vs ns ∧ ns.length ≤ 2000

section
variable {prog : Program} {w : World} {A : Around} {h₀ : Heap} {L : Addr} {m : Str → Option Value} {env : Env} {elt : Expr} {x : Str} {scope : Scope} {cl : List (Str × Addr)} {s : Shared} {Fin : List Value → List (Addr × Obj) → Prop} {news : List (Addr × Obj)} {f : Obj → List (Addr × Obj)}
theorem coin_rest {n : Nat} {a : Int} {l : Addr} {vs₀ : List Value} {ns₀ : List Int} {n₀ : Nat} (hi₀ : IntsAre vs₀ ns₀) (hb₀ : ns₀.length ≤ 2000) (_hm : (l, listOf vs₀.toArray n₀) ∈ news) (U : UpdF l (listOf vs₀.toArray n₀) news f)
    (turn : ∀ vs ns nn i t I oI C oC D m₂ ys h tk (E' : Value → Shared → Prop), IntsAre vs ns → ns.length ≤ 2000 → LCg.NsObj oC m₂ → m₂ x = some (.int i t) → Fr h₀ L h m → News h₀ L h ((I, oI) :: (C, oC) :: (D, LCg.lst ys) :: f (listOf vs.toArray nn)) →
      LCg.Off3 I C D (f (listOf vs.toArray nn)) → (∀ o, LCg.Off3 I C D (f o)) → Ne3 I C D →
      wpAny (model prog w) A (eval elt (compEnvC scope cl C env)) (LCg.CompEnd h₀ L m { s with heap := h, toks := tk } I oI C oC D (LCg.lst ys) (fun _ => True) (CEl f)) E' { s with heap := h, toks := tk })
    (fin : ∀ ys zs vs ns nn, IntsAre ys zs → zs.length = n → IntsAre vs ns → ns.length ≤ 2000 → Fin ys (f (listOf vs.toArray nn))) :
    LCg.CompRest prog w A h₀ L m env elt x scope cl s (fun _ => True) (fun i v => ∃ t, v = .int (a + (i : Int)) t) Fin n 0 [] news := by
  have key : ∀ (j i : Nat) (ys : List Value) (zs : List Int) (vs : List Value) (ns : List Int) (nn : Nat), i + j = n → IntsAre ys zs → zs.length = i → IntsAre vs ns → ns.length ≤ 2000 →
      LCg.CompRest prog w A h₀ L m env elt x scope cl s (fun _ => True) (fun i v => ∃ t, v = .int (a + (i : Int)) t) Fin j i ys (f (listOf vs.toArray nn)) := by
    intro j
    induction j with
    | zero =>
      intro i ys zs vs ns nn hi hy hl hv hb
      exact LCg.CompRest.zero (fin ys zs vs ns nn hy (by omega) hv hb)
    | succ j ih =>
      intro i ys zs vs ns nn hi hy hl hv hb
      refine LCg.CompRest.succ ?_
      rintro v I oI C oC D m₂ h tk E' ⟨t, rfl⟩ hC hx F N off ne
      refine wpAny_mono (turn vs ns nn _ t I oI C oC D m₂ ys h tk E' hv hb hC hx F N off (off3_any U off) ne) (fun y s₂ hq => ?_) fun _ _ e => e
      obtain ⟨h', tk', nw, e, F', N', off', hS, r, t', vs', ns', n', rfl, rfl, hi', hb'⟩ := hq
      refine ⟨h', tk', _, e, F', N', off', hS, ?_⟩
      exact ih (i + 1) _ (zs ++ [r]) vs' ns' n' (by omega) (hy.append (.cons r t' .nil)) (by rw [List.length_append, List.length_singleton, hl]) hi' hb'
  rw [← UpdF.same U]
  exact key n 0 [] [] vs₀ ns₀ n₀ (by omega) .nil rfl hi₀ hb₀

theorem cel_end {I C D : Addr} {oI oC oD : Obj} {s₁ : Shared} {h : Heap} {tk : Nat} {all : List (Addr × Obj)} {r : Int} {t : Tok} {vs : List Value} {ns : List Int} {n : Nat}
    (F : Fr h₀ L h m) (N : News h₀ L h all) (sub : ∀ p ∈ (I, oI) :: (C, oC) :: (D, oD) :: f (listOf vs.toArray n), p ∈ all) (hi : IntsAre vs ns) (hb : ns.length ≤ 2000) (off : ∀ o, LCg.Off3 I C D (f o)) :
    LCg.CompEnd h₀ L m s₁ I oI C oC D oD (fun _ => True) (CEl f) (.int r t) { s₁ with heap := h, toks := tk } :=
  LCg.CompEnd.intro F N _ sub (off _) trivial ⟨r, t, vs, ns, n, rfl, rfl, hi, hb⟩
end

section
variable {prog : Program} {w : World} {A : Around} {E : Value → Shared → Prop} {s : Shared} {h₀ : Heap} {L D : Addr} {m : Str → Option Value} {news news' : List (Addr × Obj)} {n : Nat}
theorem rev_K {us : List Value} {l : List Int} {Q : Value → Shared → Prop} (F : Fr h₀ L s.heap m) (N : News h₀ L s.heap news) (U : Upd D (listOf us.toArray n) (listOf us.reverse.toArray n) news news') (hi : IntsAre us l)
    (hz : us.length ≤ sizeLine) (h : ∀ h', Fr h₀ L h' m → News h₀ L h' news' → IntsAre us.reverse l.reverse → Q .none { s with heap := h' }) : wpAny (model prog w) A (call (.builtin "list.reverse") [.ref D]) Q E s := by
  obtain ⟨pre, post, rfl, rfl, a, b⟩ := U.split
  have z := N (D, listOf us.toArray n) (List.mem_append.mpr (.inr (.head _)))
  refine call_meets PySem.F.slot_list_reverse ⟨_, z.1, rfl⟩ PySem.F.entry_list_reverse (PySem.F.args_list_reverse_1 _) (AutoSeq1.list_reverse_list_0 D us.toArray n (by simpa using hz)) ⟨z.1, ?_⟩
  refine h _ (F.change (Heap.SameBut.update ..) z.2.1 z.2.2) (news_set N a b (Heap.SameBut.update ..) ?_) hi.reverse
  have q := PySem.IsL.update z.1 (fun x => x.reverse)
  rw [if_pos (by simp)] at q
  simpa using q
end
end Mine

namespace Mine

/-- three places of a ledger, and the ledger with other objects there -/
inductive Tri (l d c : Addr) (ol od oc : Obj) : List (Addr × Obj) → (Obj → Obj → Obj → List (Addr × Obj)) → Prop
  | nil : Tri l d c ol od oc [] (fun _ _ _ => [])
  | one {r g} : Tri l d c ol od oc r g → Tri l d c ol od oc ((l, ol) :: r) (fun x y z => (l, x) :: g x y z)
  | two {r g} : Tri l d c ol od oc r g → Tri l d c ol od oc ((d, od) :: r) (fun x y z => (d, y) :: g x y z)
  | three {r g} : Tri l d c ol od oc r g → Tri l d c ol od oc ((c, oc) :: r) (fun x y z => (c, z) :: g x y z)
  | keep {p r g} : Tri l d c ol od oc r g → Tri l d c ol od oc (p :: r) (fun x y z => p :: g x y z)
theorem Tri.same {l d c : Addr} {ol od oc : Obj} {news : List (Addr × Obj)} {G : Obj → Obj → Obj → List (Addr × Obj)} (h : Tri l d c ol od oc news G) : G ol od oc = news := by
  induction h with
  | nil => rfl
  | one _ ih => simp only [ih]
  | two _ ih => simp only [ih]
  | three _ ih => simp only [ih]
  | keep _ ih => simp only [ih]
theorem Tri.adr {l d c : Addr} {ol od oc : Obj} {news : List (Addr × Obj)} {G : Obj → Obj → Obj → List (Addr × Obj)} (h : Tri l d c ol od oc news G) (x y z : Obj) : (G x y z).map (·.1) = news.map (·.1) := by
  induction h with
  | nil => rfl
  | one _ ih => simp only [List.map_cons, ih]
  | two _ ih => simp only [List.map_cons, ih]
  | three _ ih => simp only [List.map_cons, ih]
  | keep _ ih => simp only [List.map_cons, ih]

def MEnd (h₀ : Heap) (L : Addr) (x y : Str) (st : List Str) (m₀ : Str → Option Value) (G : Obj → Obj → Obj → List (Addr × Obj)) (H : Int) (K : Value) (own : List (Addr × Obj)) (hi : Int) (s s₂ : Shared) : Prop :=
  ∃ (vs : List Value) (ns : List Int) (n : Nat) (nx : Int) (nt : Tok) (oW : Obj) (v : Option Value) (pt : Tok) (h : Heap) (tk : Nat) (m' : Str → Option Value) (news' : List (Addr × Obj)),
    s₂ = { s with heap := h, toks := tk } ∧ IntsAre vs ns ∧ ns.length ≤ 2000 ∧ oW.data = .cell v ∧ 0 ≤ nx ∧ nx ≤ hi ∧ Fr h₀ L h m' ∧ m' y = some (.int nx pt) ∧ (∀ z, z ≠ x → z ≠ y → st.contains z = false → m' z = m₀ z) ∧
    News h₀ L h news' ∧ (∀ p ∈ G (listOf vs.toArray n) (dictOf [⟨H, K, .int nx nt⟩] 1) oW, p ∈ news') ∧ ∀ p ∈ own, p ∈ news'
def MTurn (h₀ : Heap) (L : Addr) (x y : Str) (st : List Str) (m₀ : Str → Option Value) (G : Obj → Obj → Obj → List (Addr × Obj)) (H : Int) (K : Value) (own : List (Addr × Obj)) (hi : Int) (s : Shared) (f : Flow) (s₂ : Shared) : Prop :=
  match f with
  | .next => MEnd h₀ L x y st m₀ G H K own hi s s₂
  | .cont => MEnd h₀ L x y st m₀ G H K own hi s s₂
  | _ => False

structure MC where
  vs : List Value
  ns : List Int
  n : Nat
  nx : Int
  nt : Tok
  oW : Obj
  v : Option Value
  pt : Tok

section
variable {prog : Program} {w : World} {A : Around} {E : Value → Shared → Prop} {s : Shared} {env : Env} {h₀ : Heap} {x : Str} {body : List Stmt} {Q : Flow → Shared → Prop}
theorem main_loop {r l d c L : Addr} {a₀ b₀ : Int} {t₀ u₀ v₀ : Tok} {n : Nat} {m₀ : Str → Option Value} {news : List (Addr × Obj)} {G : Obj → Obj → Obj → List (Addr × Obj)} {vs₀ : List Value} {ns₀ : List Int} {k₀ : Nat} {nx₀ : Int} {nt₀ pt₀ : Tok} {oc : Obj} {w₀ : Option Value} {H : Int} {K : Value} (y : Str) (st : List Str)
    (hL : env.locals = L) (hh : A.handled = none) (hr : IsRange s.heap r a₀ b₀ 1 t₀ u₀ v₀) (hsmall : Builtin.Range.small a₀ b₀ 1 = true) (hn : Builtin.Range.rangeSize a₀ b₀ 1 = (n : Int)) (hn12 : n ≤ 12)
    (F : Fr h₀ L s.heap m₀) (N : News h₀ L s.heap news) (hi₀ : IntsAre vs₀ ns₀) (hb₀ : ns₀.length ≤ 2000)
    (_hl : (l, listOf vs₀.toArray k₀) ∈ news) (hy : m₀ y = some (.int nx₀ pt₀)) (_hd : (d, dictOf [⟨H, K, .int nx₀ nt₀⟩] 1) ∈ news)
    (_hc : (cellsFrom (L + 1) env.scope.names []).lookup (Str.ofString "which") = some c) (_hm : (c, oc) ∈ news) (hw : oc.data = .cell w₀)
    (T : Tri l d c (listOf vs₀.toArray k₀) (dictOf [⟨H, K, .int nx₀ nt₀⟩] 1) oc news G) (h0 : 0 ≤ nx₀) (h9 : nx₀ ≤ 9)
    (turn : ∀ vs ns n nx nt oW v pt k t (u : Str → Option Value) h tk own, OwnOff own (news.map (·.1)) → IntsAre vs ns → ns.length ≤ 2000 → oW.data = .cell v → 0 ≤ nx → nx ≤ 81 →
      Fr h₀ L h (fun z => if z = x then some (.int k t) else if z = y then some (.int nx pt) else if st.contains z then u z else m₀ z) → News h₀ L h (G (listOf vs.toArray n) (dictOf [⟨H, K, .int nx nt⟩] 1) oW ++ own) →
      wpAny (model prog w) A (execs body env) (MTurn h₀ L x y st m₀ G H K own (nx + 6) { s with heap := h, toks := tk }) E { s with heap := h, toks := tk })
    (done : ∀ vs ns n nx nt oW v pt (u : Str → Option Value) h tk, IntsAre vs ns → oW.data = .cell v →
      Fr h₀ L h (fun z => if z = x then u z else if z = y then some (.int nx pt) else if st.contains z then u z else m₀ z) → News h₀ L h (G (listOf vs.toArray n) (dictOf [⟨H, K, .int nx nt⟩] 1) oW) →
      Q .next { s with heap := h, toks := tk }) :
    wpAny (model prog w) A (pyIter (.ref r)) (fun it s₂ => LoopAtV prog w A h₀ env x body Q E it s₂) E s := by
  subst hL
  have e0 : G (listOf vs₀.toArray k₀) (dictOf [⟨H, K, .int nx₀ nt₀⟩] 1) oc = news := T.same
  refine kst_range (σ := MC) (fun c => G (listOf c.vs.toArray c.n) (dictOf [⟨H, K, .int c.nx c.nt⟩] 1) c.oW) (fun c => [(y, .int c.nx c.pt)]) (fun c => IntsAre c.vs c.ns ∧ c.ns.length ≤ 2000 ∧ c.oW.data = .cell c.v) st
    (fun pre c => 0 ≤ c.nx ∧ c.nx ≤ 9 + 6 * (pre.length : Int)) ⟨vs₀, ns₀, k₀, nx₀, nt₀, oc, w₀, pt₀⟩ hh hr hsmall hn F (by dsimp only; rw [e0]; exact N) ⟨hi₀, hb₀, hw⟩ ?_ ⟨h0, by simpa using h9⟩ ?_ ?_
  · intro p hp
    rw [List.mem_singleton.mp hp]
    exact hy
  · rintro ⟨vs, ns, n', nx, nt, oW, v, pt⟩ pre k t u h tk own _ hlt hoff ⟨hi, hb, hv⟩ ⟨hp0, hp1⟩ F₁ N₁
    dsimp only [kstB] at hoff F₁ N₁ hp0 hp1 hi hb hv
    rw [e0] at hoff
    refine wpAny_mono (turn vs ns n' nx nt oW v pt k t u h tk own hoff hi hb hv hp0 (by omega) F₁ N₁) (fun f s₂ hq => ?_) fun _ _ e => e
    have fin : MEnd h₀ env.locals x y st m₀ G H K own (nx + 6) { s with heap := h, toks := tk } s₂ → InvEndN h₀ env.locals (KstS (fun c : MC => G (listOf c.vs.toArray c.n) (dictOf [⟨H, K, .int c.nx c.nt⟩] 1) c.oW) (fun c => [(y, .int c.nx c.pt)]) (fun c => IntsAre c.vs c.ns ∧ c.ns.length ≤ 2000 ∧ c.oW.data = .cell c.v) x st m₀ (fun pre c => 0 ≤ c.nx ∧ c.nx ≤ 9 + 6 * (pre.length : Int)) (pre ++ [k])) own ((G (listOf vs₀.toArray k₀) (dictOf [⟨H, K, .int nx₀ nt₀⟩] 1) oc).map (·.1)) { s with heap := h, toks := tk } s₂ := by
      rintro ⟨vs', ns', m', nx', nt', oW', v', pt', h', tk', mm, news', rfl, hi', hb', hv', hx0, hx1, F', hmy, hmz, N', hG, hO⟩
      refine kst_end ⟨vs', ns', m', nx', nt', oW', v', pt'⟩ F' N' hG hO ?_ ⟨hi', hb', hv'⟩ ?_ ?_ ⟨hx0, ?_⟩
      · dsimp only
        rw [T.adr, T.adr]
      · intro p hp
        rw [List.mem_singleton.mp hp]
        exact hmy
      · intro z hz hp hs
        exact hmz z hz (fun e => hp _ (.head _) e) hs
      · dsimp only
        rw [List.length_append, List.length_singleton]
        push_cast
        omega
    cases f with
    | next => exact fin hq
    | cont => exact fin hq
    | brk => exact hq.elim
    | ret v => exact hq.elim
  · rintro ⟨vs, ns, n', nx, nt, oW, v, pt⟩ u h tk ⟨hi, hb, hv⟩ _ F₁ N₁
    exact done vs ns n' nx nt oW v pt u h tk hi hv F₁ N₁
theorem mTurn_end {L : Addr} {y : Str} {st : List Str} {m₀ m' : Str → Option Value} {G : Obj → Obj → Obj → List (Addr × Obj)} {H : Int} {K : Value} {own news' : List (Addr × Obj)} {hi : Int} {vs : List Value} {ns : List Int} {n : Nat} {nx nx' : Int} {nt pt : Tok} {oW : Obj} {v : Option Value} {h : Heap} {tk : Nat} {f : Flow}
    (hf : f = .next ∨ f = .cont) (F : Fr h₀ L h m') (N : News h₀ L h news') (hG : ∀ p ∈ G (listOf vs.toArray n) (dictOf [⟨H, K, .int nx nt⟩] 1) oW, p ∈ news') (hO : ∀ p ∈ own, p ∈ news') (hi' : IntsAre vs ns) (hb : ns.length ≤ 2000) (hv : oW.data = .cell v)
    (hy : m' y = some (.int nx' pt)) (e : nx' = nx) (h0 : 0 ≤ nx) (h1 : nx ≤ hi) (hz : ∀ z, z ≠ x → z ≠ y → st.contains z = false → m' z = m₀ z) :
    MTurn h₀ L x y st m₀ G H K own hi s f { s with heap := h, toks := tk } := by
  subst e
  have k : MEnd h₀ L x y st m₀ G H K own hi s { s with heap := h, toks := tk } := ⟨vs, ns, n, nx', nt, oW, v, pt, h, tk, m', news', rfl, hi', hb, hv, h0, h1, F, hy, hz, N, hG, hO⟩
  rcases hf with rfl | rfl
  · exact k
  · exact k
theorem ne_left {z y : Str} (h : [y].contains z = false) : z ≠ y := by
  simpa using h
theorem split3 {M : Model} {Q : Unit → Shared → Prop} {y : Str} {r : Int} {t : Tok} (h0 : 0 ≤ r) (h3 : r < 3) (k0 : wpAny M A (storeName env y (.int 0 t)) Q E s) (k1 : wpAny M A (storeName env y (.int 1 t)) Q E s) (k2 : wpAny M A (storeName env y (.int 2 t)) Q E s) :
    wpAny M A (storeName env y (.int r t)) Q E s := by
  have : r = 0 ∨ r = 1 ∨ r = 2 := by omega
  rcases this with rfl | rfl | rfl
  · exact k0
  · exact k1
  · exact k2
end
end Mine

namespace Mine
/-! the block with a test: the numbers that a list does not hold -/
def FEl (news : List (Addr × Obj)) (K : List Int) (k : Int) (y : Value) (news' : List (Addr × Obj)) : Prop := news' = news ∧ (∃ t : Tok, y = .int k t) ∧ k ∉ K
def FNo (news : List (Addr × Obj)) (K : List Int) (k : Int) (_ : Value) (news' : List (Addr × Obj)) : Prop := news' = news ∧ k ∈ K

section
variable {prog : Program} {w : World} {A : Around} {h₀ : Heap} {L : Addr} {m : Str → Option Value} {env : Env} {ct elt : Expr} {x : Str} {scope : Scope} {cl : List (Str × Addr)} {s : Shared} {Fin : List Value → List (Addr × Obj) → Prop} {news : List (Addr × Obj)}
theorem filt_rest {n : Nat} {a : Int} {ck cw lk D₀ : Addr} {oK oW : Obj} {its : Array Value} {us : List Value} {c₁ c₂ : Nat} {wv : Int} {wt : Tok} {K : List Int}
    (_h1 : (cellsFrom (env.locals + 1) env.scope.names []).lookup (Str.ofString "kept") = some ck) (_h2 : (ck, oK) ∈ news) (_h3 : oK.data = .cell (some (.ref lk))) (_h4 : (lk, listOf its c₁) ∈ news)
    (_h5 : (cellsFrom (env.locals + 1) env.scope.names []).lookup (Str.ofString "which") = some cw) (_h6 : (cw, oW) ∈ news) (_h7 : oW.data = .cell (some (.int wv wt))) (_h8 : its[wv.toNat]? = some (.ref D₀)) (_h9 : (D₀, listOf us.toArray c₂) ∈ news) (_h10 : IntsAre us K)
    (turn : ∀ k t I oI C oC D m₂ ys h tk (E' : Value → Shared → Prop), LCg.NsObj oC m₂ → m₂ x = some (.int k t) → Fr h₀ L h m → News h₀ L h ((I, oI) :: (C, oC) :: (D, LCg.lst ys) :: news) → LCg.Off3 I C D news → Ne3 I C D →
      wpAny (model prog w) A (isTrue ct (compEnvC scope cl C env) (eval ct (compEnvC scope cl C env))) (fun b s' => if b = true then wpAny (model prog w) A (eval elt (compEnvC scope cl C env)) (LCg.CompEnd h₀ L m { s with heap := h, toks := tk } I oI C oC D (LCg.lst ys) (fun _ => True) (FEl news K k)) E' s'
        else LCg.CompEnd h₀ L m { s with heap := h, toks := tk } I oI C oC D (LCg.lst ys) (fun _ => True) (FNo news K k) Value.none s') E' { s with heap := h, toks := tk })
    (fin : ∀ ys, IntsAre ys ((rangeKs a n).filter fun k => decide (k ∉ K)) → Fin ys news) :
    LCt.CompRestT prog w A h₀ L m env ct elt x scope cl s (fun _ => True) (fun i v => ∃ t, v = .int (a + (i : Int)) t) Fin n 0 [] news := by
  have key : ∀ (j i : Nat) (ys : List Value), i + j = n → IntsAre ys (((rangeKs a n).take i).filter fun k => decide (k ∉ K)) →
      LCt.CompRestT prog w A h₀ L m env ct elt x scope cl s (fun _ => True) (fun i v => ∃ t, v = .int (a + (i : Int)) t) Fin j i ys news := by
    intro j
    induction j with
    | zero =>
      intro i ys hi hy
      have e : i = (rangeKs a n).length := by rw [rangeKs_length]; omega
      subst e
      rw [List.take_length] at hy
      exact LCt.CompRestT.zero (fin ys hy)
    | succ j ih =>
      intro i ys hi hy
      refine LCt.CompRestT.succ ?_
      rintro v I oI C oC D m₂ h tk E' ⟨t, rfl⟩ hC hx F N off ne
      have hk : (rangeKs a n)[i]? = some (a + (i : Int)) := by
        have : i < n := by omega
        simp [rangeKs, this]
      refine wpAny_mono (turn _ t I oI C oC D m₂ ys h tk E' hC hx F N off ne) (fun b s₂ hq => ?_) fun _ _ e => e
      cases b with
      | true =>
        simp only [if_true] at hq ⊢
        refine wpAny_mono hq (fun y s₃ hr => ?_) fun _ _ e => e
        obtain ⟨h', tk', nw, e, F', N', off', hS, hn, ⟨t', hy'⟩, hnot⟩ := hr
        rw [hn] at N' off'
        refine ⟨h', tk', news, e, F', N', off', hS, ?_⟩
        rw [hy']
        refine ih (i + 1) _ (by omega) ?_
        rw [List.take_add_one, hk, List.filter_append]
        have : ((some (a + (i : Int))).toList.filter fun k => decide (k ∉ K)) = [a + (i : Int)] := by simp [hnot]
        rw [this]
        exact hy.append (.cons _ t' .nil)
      | false =>
        simp only [Bool.false_eq_true, if_false] at hq ⊢
        obtain ⟨h', tk', nw, e, F', N', off', hS, hn, hin⟩ := hq
        rw [hn] at N' off'
        refine ⟨h', tk', news, e, F', N', off', hS, ih (i + 1) _ (by omega) ?_⟩
        rw [List.take_add_one, hk, List.filter_append]
        have : ((some (a + (i : Int))).toList.filter fun k => decide (k ∉ K)) = [] := by simp [hin]
        rw [this, List.append_nil]
        exact hy
  exact key n 0 [] (by omega) (by simp only [List.take_zero, List.filter_nil]; exact .nil)

theorem item_lit {E : Value → Shared → Prop} {value slice : PySem.Expr} {l : Addr} {its : Array Value} {c : Nat} {k : Int} {u : Tok} {a : Addr} {Q : Value → Shared → Prop} (N : News h₀ L s.heap news) (hm : (l, listOf its c) ∈ news) (h0 : 0 ≤ k) (hhi : k < 2 ^ 63) (hx : its[k.toNat]? = some (.ref a))
    (h : Q (.ref a) s) (hs : subscripted slice false (.ref l) (.int k u) = operate [.ref l, .int k u] (getItem (.ref l) (.int k u))) :
    wpAny (model prog w) A (subscriptTail value slice (.ref l) (.int k u)) Q E s :=
  have hl : s.heap.IsList l its := ⟨_, (N _ hm).1, rfl, c, rfl⟩
  tail_any hl.typeIs slot_list_getitem.lookup (wpAny_getItem_list hl h0 hhi hx h) hs
theorem notin_of {K : List Int} {k : Int} (h : (!(K.any (· == k))) = true) : k ∉ K := by
  intro hk
  have : K.any (· == k) = true := List.any_eq_true.mpr ⟨k, hk, by simp⟩
  rw [this] at h
  exact absurd h (by decide)
theorem in_of {K : List Int} {k : Int} (h : (!(K.any (· == k))) = false) : k ∈ K := by
  have : K.any (· == k) = true := by simpa using h
  obtain ⟨a, ha, e⟩ := List.any_eq_true.mp this
  have e' : a = k := by simpa using e
  exact e' ▸ ha
theorem fel_end {I C D : Addr} {oI oC oD : Obj} {s₁ : Shared} {h : Heap} {tk : Nat} {all : List (Addr × Obj)} {K : List Int} {k : Int} {t : Tok}
    (F : Fr h₀ L h m) (N : News h₀ L h all) (sub : ∀ p ∈ (I, oI) :: (C, oC) :: (D, oD) :: news, p ∈ all) (off : LCg.Off3 I C D news) (hk : k ∉ K) :
    LCg.CompEnd h₀ L m s₁ I oI C oC D oD (fun _ => True) (FEl news K k) (.int k t) { s₁ with heap := h, toks := tk } :=
  LCg.CompEnd.intro F N _ sub off trivial ⟨rfl, ⟨t, rfl⟩, hk⟩
theorem fno_end {I C D : Addr} {oI oC oD : Obj} {s₁ : Shared} {h : Heap} {tk : Nat} {all : List (Addr × Obj)} {K : List Int} {k : Int} {v : Value}
    (F : Fr h₀ L h m) (N : News h₀ L h all) (sub : ∀ p ∈ (I, oI) :: (C, oC) :: (D, oD) :: news, p ∈ all) (off : LCg.Off3 I C D news) (hk : k ∈ K) :
    LCg.CompEnd h₀ L m s₁ I oI C oC D oD (fun _ => True) (FNo news K k) v { s₁ with heap := h, toks := tk } :=
  LCg.CompEnd.intro F N _ sub off trivial ⟨rfl, hk⟩
end
end Mine

namespace Mine
/-! the least free number -/
structure LF (p : Int) (K : List Int) (f : Int) : Prop where
  lo : p ≤ f
  hi : f ≤ p + 5
  free : f ∉ K
  least : ∀ j, p ≤ j → j < f → j ∈ K

theorem erase_len {K : List Int} {a : Int} (h : a ∈ K) : (K.erase a).length + 1 = K.length := by
  rw [List.length_erase_of_mem h]
  have := List.length_pos_of_mem h
  omega
theorem lf_all : ∀ (n : Nat) (p : Int) (K : List Int), (∀ j, p ≤ j → j < p + (n : Int) → j ∈ K) → n ≤ K.length
  | 0, _, _, _ => Nat.zero_le _
  | n + 1, p, K, h => by
    have h0 : p + (n : Int) ∈ K := h _ (by omega) (by push_cast; omega)
    have e := erase_len h0
    have ih := lf_all n p (K.erase (p + (n : Int))) (fun j h1 h2 => (List.mem_erase_of_ne (by omega)).mpr (h j h1 (by push_cast; omega)))
    omega
theorem lf_find (K : List Int) (p : Int) : ∀ n : Nat, (∃ f, p ≤ f ∧ f < p + (n : Int) ∧ f ∉ K ∧ ∀ j, p ≤ j → j < f → j ∈ K) ∨ ∀ j, p ≤ j → j < p + (n : Int) → j ∈ K
  | 0 => .inr fun j h1 h2 => by simp at h2; omega
  | n + 1 => by
    rcases lf_find K p n with ⟨f, h1, h2, h3, h4⟩ | h
    · exact .inl ⟨f, h1, by push_cast; omega, h3, h4⟩
    · by_cases hm : p + (n : Int) ∈ K
      · refine .inr fun j h1 h2 => ?_
        by_cases e : j = p + (n : Int)
        · exact e ▸ hm
        · exact h j h1 (by push_cast at h2; omega)
      · exact .inl ⟨p + (n : Int), by omega, by push_cast; omega, hm, h⟩
theorem lf_some {K : List Int} (h : K.length ≤ 5) (p : Int) : ∃ f, LF p K f := by
  rcases lf_find K p 6 with ⟨f, h1, h2, h3, h4⟩ | h'
  · exact ⟨f, h1, by push_cast at h2; omega, h3, h4⟩
  · have := lf_all 6 p K h'
    omega
theorem LF.eq {p f k : Int} {K : List Int} (h : LF p K f) (h1 : p ≤ k) (h2 : k ≤ f) (h3 : k ∉ K) : k = f := by
  by_cases e : k = f
  · exact e
  · exact absurd (h.least k h1 (by omega)) h3

def VEnd (h₀ : Heap) (L : Addr) (y : Str) (m₀ : Str → Option Value) (G : Obj → List (Addr × Obj)) (H : Int) (Ky : Value) (K : List Int) (k : Int) (s s₂ : Shared) : Prop :=
  ∃ (nt kt : Tok) (h : Heap) (tk : Nat) (m' : Str → Option Value) (news' : List (Addr × Obj)),
    s₂ = { s with heap := h, toks := tk } ∧ Fr h₀ L h m' ∧ m' y = some (.int (k + 1) kt) ∧ (∀ z, z ≠ y → m' z = m₀ z) ∧ News h₀ L h news' ∧ (∀ p ∈ G (dictOf [⟨H, Ky, .int (k + 1 + 1) nt⟩] 1), p ∈ news') ∧ k ∈ K
def VPost (h₀ : Heap) (L : Addr) (y : Str) (m₀ : Str → Option Value) (G : Obj → List (Addr × Obj)) (H : Int) (Ky : Value) (K : List Int) (k : Int) (s : Shared) (f : Flow) (s₂ : Shared) : Prop :=
  match f with
  | .next => VEnd h₀ L y m₀ G H Ky K k s s₂
  | .cont => VEnd h₀ L y m₀ G H Ky K k s s₂
  | _ => False

structure VC where
  k : Int
  nt : Tok
  kt : Tok
section
variable {prog : Program} {w : World} {A : Around} {E : Value → Shared → Prop} {Q : Flow → Shared → Prop} {s : Shared} {env : Env} {h₀ : Heap} {L : Addr}
theorem var_loop {test : PySem.Expr} {body : List Stmt} {pos : Pos} {m₀ : Str → Option Value} {news : List (Addr × Obj)} {G : Obj → List (Addr × Obj)} {d D₀ : Addr} {H : Int} {Ky : Value} {n₀ p : Int} {nt₀ kt₀ : Tok} {us : List Value} {K : List Int} {c₂ : Nat} {xs dx Cs : Addr} {en1 en2 : DictEntry} (y : Str)
    (F : Fr h₀ L s.heap m₀) (N : News h₀ L s.heap news) (hk : m₀ y = some (.int p kt₀)) (_hd : (d, dictOf [⟨H, Ky, .int n₀ nt₀⟩] 1) ∈ news) (hn : n₀ = p + 1) (_hs : m₀ (Str.ofString "self") = some (.ref xs)) (_hx : (xs, instObj Cs dx) ∈ news) (_he : (dx, dictOf [en1, en2] 2) ∈ news) (_h2 : en2.val = .ref D₀) (_hu : (D₀, listOf us.toArray c₂) ∈ news) (_hi : IntsAre us K) (hlen : K.length ≤ 5)
    (U : UpdF d (dictOf [⟨H, Ky, .int n₀ nt₀⟩] 1) news G)
    (turn : ∀ k nt kt f h tk, LF p K f → p ≤ k → k ≤ f → Fr h₀ L h (fun z => if z = y then some (.int k kt) else m₀ z) → News h₀ L h (G (dictOf [⟨H, Ky, .int (k + 1) nt⟩] 1)) →
      wpAny (model prog w) A (isTrue test env (eval test env)) (fun b s₂ =>
        if b = true then wpAny (model prog w) A (execs body env) (VPost h₀ L y m₀ G H Ky K k s) E s₂ else Q .next s₂) E { s with heap := h, toks := tk })
    (hE : PassesOwn (model prog w) A env E := by passes_own) :
    wpAny (model prog w) A (exec (.While test body [] pos) env) Q E s := by
  obtain ⟨f, hf⟩ := lf_some hlen p
  subst hn
  refine ksw_while (σ := VC) (fun c => G (dictOf [⟨H, Ky, .int (c.k + 1) c.nt⟩] 1)) (fun c => [(y, .int c.k c.kt)]) (fun _ => True) [] (fun c => p ≤ c.k ∧ c.k ≤ f) (fun c => (f - c.k).toNat) ⟨p, nt₀, kt₀⟩ F
    (by dsimp only; rw [UpdF.same U]; exact N) trivial ?_ ⟨Int.le_refl _, hf.lo⟩ ?_ hE
  · intro q hq
    rw [List.mem_singleton.mp hq]
    exact hk
  · rintro ⟨k, nt, kt⟩ u h tk _ ⟨hp, hq⟩ F₁ N₁
    dsimp only at hp hq N₁
    have em : kstB (fun z => if ([] : List Str).contains z then u z else m₀ z) [(y, Value.int k kt)] = fun z => if z = y then some (.int k kt) else m₀ z := by
      funext z
      simp only [kstB, List.contains_nil, Bool.false_eq_true, if_false]
    dsimp only at F₁
    rw [em] at F₁
    refine wpAny_mono (turn k nt kt f h tk hf hp hq F₁ N₁) (fun b s₂ hb => ?_) fun _ _ e => e
    cases b with
    | false => exact hb
    | true =>
      simp only [if_true] at hb ⊢
      refine wpAny_mono hb (fun fl s₃ hv => ?_) fun _ _ e => e
      have fin : VEnd h₀ L y m₀ G H Ky K k s s₃ → KswEnd h₀ L s (fun c : VC => G (dictOf [⟨H, Ky, .int (c.k + 1) c.nt⟩] 1)) (fun c => [(y, .int c.k c.kt)]) (fun _ => True) [] m₀ (fun c => p ≤ c.k ∧ c.k ≤ f) (fun c => (f - c.k).toNat) ⟨k, nt, kt⟩ s₃ := by
        rintro ⟨nt', kt', h', tk', m', news', rfl, F', hy, hz, N', hG, hin⟩
        have hne : k ≠ f := fun e => hf.free (e ▸ hin)
        refine ksw_end ⟨k + 1, nt', kt'⟩ F' N' hG trivial ?_ ?_ ⟨by dsimp only; omega, by dsimp only; omega⟩ (by dsimp only; omega)
        · intro q hq'
          rw [List.mem_singleton.mp hq']
          exact hy
        · intro z hz' _
          exact hz z fun e => hz' _ (.head _) e
      cases fl with
      | next => exact fin hv
      | cont => exact fin hv
      | brk => exact hv.elim
      | ret v => exact hv.elim
theorem vPost_end {y : Str} {m₀ m' : Str → Option Value} {G : Obj → List (Addr × Obj)} {H : Int} {Ky : Value} {K : List Int} {k k₁ k₂ : Int} {nt kt : Tok} {h : Heap} {tk : Nat} {news' : List (Addr × Obj)}
    (F : Fr h₀ L h m') (N : News h₀ L h news') (hG : ∀ p ∈ G (dictOf [⟨H, Ky, .int k₂ nt⟩] 1), p ∈ news') (hy : m' y = some (.int k₁ kt)) (e1 : k₁ = k + 1) (e2 : k₂ = k + 1 + 1) (hz : ∀ z, z ≠ y → m' z = m₀ z) (hin : k ∈ K) :
    VPost h₀ L y m₀ G H Ky K k s .next { s with heap := h, toks := tk } := by
  subst e1
  subst e2
  exact ⟨nt, kt, h, tk, m', news', rfl, F, hy, hz, N, hG, hin⟩
end
theorem mem_of_any {K : List Int} {k : Int} (h : K.any (· == k) = true) : k ∈ K := by
  obtain ⟨a, ha, e⟩ := List.any_eq_true.mp h
  have e' : a = k := by simpa using e
  exact e' ▸ ha
theorem notmem_of_any {K : List Int} {k : Int} (h : K.any (· == k) = false) : k ∉ K := by
  intro hk
  rw [List.any_eq_true.mpr ⟨k, hk, by simp⟩] at h
  cases h

end Mine

namespace Mine
theorem take_pre {α : Type} {n : Nat} {w pre post : List α} {k : α} (h : List.take n w = pre ++ k :: post) : pre.length + 1 ≤ n := by
  have h1 := congrArg List.length h
  have h2 := List.length_take_le n w
  rw [List.length_append, List.length_cons] at h1
  omega
theorem size_ofB {us : List Value} {l : List Int} (hi : IntsAre us l) (h : l.length ≤ 100000) : us.length ≤ sizeLine := by
  have e := hi.length
  rw [PySem.sizeLine_eq]
  omega
theorem mem_rangeKs {a k : Int} {n : Nat} : k ∈ rangeKs a n ↔ a ≤ k ∧ k < a + (n : Int) := by
  simp only [rangeKs, List.mem_map, List.mem_range]
  constructor
  · rintro ⟨i, hi, rfl⟩
    omega
  · intro h
    exact ⟨(k - a).toNat, by omega, by omega⟩
theorem lf_left {p f : Int} {K : List Int} {n : Nat} (h : LF p K f) (hn : n = 6) : f ∈ (rangeKs p n).filter fun k => decide (k ∉ K) := by
  have h1 := h.lo
  have h2 := h.hi
  rw [List.mem_filter, mem_rangeKs]
  exact ⟨by omega, by simpa using h.free⟩
theorem lf_min {p f M : Int} {K : List Int} {n : Nat} (h : LF p K f) (hn : n = 6) (hM : M ∈ (rangeKs p n).filter fun k => decide (k ∉ K)) (hl : ∀ a, a ∈ ((rangeKs p n).filter fun k => decide (k ∉ K)) → M ≤ a) : M = f := by
  have h3 := hl f (lf_left h hn)
  rw [List.mem_filter, mem_rangeKs] at hM
  exact h.eq hM.1.1 h3 (by simpa using hM.2)

section
variable {prog : Program} {w : World} {A : Around} {E : Value → Shared → Prop} {s : Shared} {h₀ : Heap} {L l : Addr} {m : Str → Option Value} {news : List (Addr × Obj)} {Q : Value → Shared → Prop}
theorem min_left {p f : Int} {K : List Int} {n c : Nat} {vs : List Value} (hm : (l, listOf vs.toArray c) ∈ news) (hi : IntsAre vs ((rangeKs p n).filter fun k => decide (k ∉ K))) (hf : LF p K f) (hn : n = 6) (F : Fr h₀ L s.heap m) (N : News h₀ L s.heap news) (hh : A.handled = none)
    (h : ∀ h' (t : Tok) tk, Fr h₀ L h' m → News h₀ L h' news → p ≤ f → f ≤ p + 5 → Q (.int f t) { s with heap := h', toks := tk }) : wpAny (model prog w) A (call (.builtin "min") [.ref l]) Q E s := by
  have hl : s.heap.IsList l vs.toArray := ⟨_, (N _ hm).1, rfl, c, rfl⟩
  have hne : 0 < ((rangeKs p n).filter fun k => decide (k ∉ K)).length := List.length_pos_of_mem (lf_left hf hn)
  refine min_list_N hh F N hl hi hne fun h' M t tk F' N' h1 h2 => ?_
  have e : M = f := lf_min hf hn h1 h2
  subst e
  exact h h' t tk F' N' hf.lo hf.hi

theorem ne_pair {a b : Addr} {oa ob : Obj} {ka kb : Nat} {x : Str} {i j : Int} {t t' u u' : Tok} (N : News h₀ L s.heap news) (ma : (a, oa) ∈ news) (ca : oa.cls = .type "tuple") (da : oa.data = .seq #[.str x t, .int i u] ka)
    (mb : (b, ob) ∈ news) (cb : ob.cls = .type "tuple") (db : ob.data = .seq #[.str x t', .int j u'] kb) (e : i = j) (hx : PyData.strOk x = true) (hu : A.units + 64 < cLine)
    (h : i = j → Q (.bool false) s) : wpAny (model prog w) A (compareOp .NotEq (.ref a) (.ref b)) Q E s := by
  have hq : PyData.eqv (.tuple [.str x, .int i]) (.tuple [.str x, .int j]) = true := by
    subst e
    simp [PyData.eqv, PyData.eqvAll]
  have hs : ∀ k : Int, SeqAt.shaped (.tuple [.str x, .int k]) = true := by
    intro k
    simp [SeqAt.shaped, PyData.canLay0, PyData.canLayAll0, PyData.depth, PyData.depthAll, hx]
  refine ne_dataH (reads_tuple_at (N.get ma) ca da (ReadsAll.cons (Reads.str x t) (ReadsAll.cons (Reads.int i u) ReadsAll.nil))) (reads_tuple_at (N.get mb) cb db (ReadsAll.cons (Reads.str x t') (ReadsAll.cons (Reads.int j u') ReadsAll.nil))) (hs i) (hs j) hu ?_
  rw [hq]
  exact h e

theorem datAll_ints : ∀ {vs : List Value} {ns : List Int}, IntsAre vs ns → DatAll news vs (ns.map Dat.int)
  | _, _, .nil => .nil
  | _, _, .cons k t r => .cons (.int k t) (datAll_ints r)
theorem ok_ints (n : Nat) (ns : List Int) : kqdOk (n + 1) (.list (ns.map Dat.int)) = true := by
  simp only [kqdOk, List.all_eq_true]
  intro d hd
  obtain ⟨k, _, rfl⟩ := List.mem_map.mp hd
  simp [kqdOk]
theorem eq_nest {a b x y x' y' : Addr} {ca cb c1 c2 c3 c4 : Nat} {us vs us' vs' : List Value} {ks js : List Int} (N : News h₀ L s.heap news) (ma : (a, listOf [Value.ref x, Value.ref y].toArray ca) ∈ news) (mb : (b, listOf [Value.ref x', Value.ref y'].toArray cb) ∈ news)
    (m1 : (x, listOf us.toArray c1) ∈ news) (m2 : (y, listOf vs.toArray c2) ∈ news) (m3 : (x', listOf us'.toArray c3) ∈ news) (m4 : (y', listOf vs'.toArray c4) ∈ news)
    (i1 : IntsAre us ks) (i2 : IntsAre vs js) (i3 : IntsAre us' ks) (i4 : IntsAre vs' js) (hu : A.units + 64 < cLine) (h : Q (.bool true) s) : wpAny (model prog w) A (compareOp .Eq (.ref a) (.ref b)) Q E s := by
  have D1 : DatAll news [Value.ref x, Value.ref y] [.list (ks.map Dat.int), .list (js.map Dat.int)] := .cons (.list m1 (datAll_ints i1)) (.cons (.list m2 (datAll_ints i2)) .nil)
  have D2 : DatAll news [Value.ref x', Value.ref y'] [.list (ks.map Dat.int), .list (js.map Dat.int)] := .cons (.list m3 (datAll_ints i3)) (.cons (.list m4 (datAll_ints i4)) .nil)
  have ok : ∀ d ∈ [Dat.list (ks.map Dat.int), Dat.list (js.map Dat.int)], kqdOk 8 d = true := by
    intro d hd
    rcases List.mem_cons.mp hd with rfl | hd
    · exact ok_ints 7 ks
    · rw [List.mem_singleton.mp hd]
      exact ok_ints 7 js
  refine kqd_eq N ma rfl rfl D1 (fun _ h => h) mb rfl rfl D2 (fun _ h => h) ok ok hu ?_
  simpa using h
end
end Mine

open Mine
local macro_rules | `(tactic| kst_allIn) => `(tactic| ((try dsimp only); (try simp only [List.nil_append, List.cons_append]); (repeat ((with_reducible refine List.forall_mem_cons.mpr ⟨?_, ?_⟩); (focus (first | ((repeat (first | (with_reducible exact List.mem_cons_self) | (with_reducible refine List.mem_cons_of_mem _ ?_))); done) | (with_unfolding_all k_memK))))); first | (with_reducible exact List.forall_mem_nil _) | (intro p9 h9; (repeat (first | (with_reducible exact h9) | (with_reducible exact List.mem_append_left _ h9) | (with_reducible exact List.mem_append_right _ h9) | (with_reducible refine List.mem_cons_of_mem _ ?_))))))
local macro_rules | `(tactic| k_allIn) => `(tactic| ((try dsimp only); (try simp only [List.nil_append, List.cons_append]); (repeat ((with_reducible refine List.forall_mem_cons.mpr ⟨?_, ?_⟩); (focus (first | ((repeat (first | (with_reducible exact List.mem_cons_self) | (with_reducible refine List.mem_cons_of_mem _ ?_))); done) | (with_unfolding_all k_memK))))); first | (with_reducible exact List.forall_mem_nil _) | (intro p9 h9; (repeat (first | (with_reducible exact h9) | (with_reducible exact List.mem_append_left _ h9) | (with_reducible exact List.mem_append_right _ h9) | (with_reducible refine List.mem_cons_of_mem _ ?_))))))
local macro_rules | `(tactic| walk_at "InvEndN") => `(tactic| kst_close)
local macro_rules | `(tactic| k_ne) => `(tactic| first
  | (refine neN ?_; (try dsimp only); omega)
  | (refine neN ?_; first
    | exact off1_ne (by with_reducible assumption) (by k_mem)
    | exact Ne.symm (off1_ne (by with_reducible assumption) (by k_mem))
    | exact off3_1 (by with_reducible assumption) (by k_mem)
    | exact Ne.symm (off3_1 (by with_reducible assumption) (by k_mem))
    | exact off3_2 (by with_reducible assumption) (by k_mem)
    | exact Ne.symm (off3_2 (by with_reducible assumption) (by k_mem))
    | exact off3_3 (by with_reducible assumption) (by k_mem)
    | exact Ne.symm (off3_3 (by with_reducible assumption) (by k_mem))
    | exact Ne3.ic (by with_reducible assumption) | exact Ne3.id (by with_reducible assumption) | exact Ne3.cd (by with_reducible assumption)
    | exact Ne.symm (Ne3.ic (by with_reducible assumption)) | exact Ne.symm (Ne3.id (by with_reducible assumption)) | exact Ne.symm (Ne3.cd (by with_reducible assumption))))
local macro_rules | `(tactic| walk_at "FinE") => `(tactic| ((unfold LCg.FinE); intro D' h' tk' F' N' o1'; (try dsimp only at N' o1'); (try dsimp only)))
local macro_rules | `(tactic| walk_at "call builtin:list.reverse") => `(tactic| (
  k_here
  k_dflt (refine' rev_K ?F ?N ?U ?i ?z ?_)
  (case F => k_dflt k_asm)
  (case N => k_dflt k_asm)
  (case U => k_dflt k_upd)
  (case i => with_reducible assumption)
  (case z => first | (k_dflt kpa_room) | exact size_ofB (by with_reducible assumption) (by (have h99 := take_pre (by with_reducible assumption)); omega))
  (intro h' F' N' hI'; try dsimp only at N')))
local macro_rules | `(tactic| walk_at "call ref") => `(tactic| (
  k_here
  (with_reducible show wpAny _ _ (call (Value.ref 85) [_]) _ _ _)
  k_dflt (refine' jn_coins ?k1 ?k2 ?_ (fun l' vs' ns' n' h' tk' hI' hLe' F' N' l1 => ?_); (case k1 => k_asm); (case k2 => k_asm))
  (focus (refine wpAny_call ?_; k_dflt k_enter))
  rotate_left
  (focus (k_lt l1; (try k_sweep)))
  ))
local macro_rules | `(tactic| walk_at "JCoins") => `(tactic| (refine' jCoins_end ?N ?hm ?hi ?hb ?F ?hs ?hl; (case N => k_asm); (case hm => k_mem); (case F => k_asm); (case hi => with_reducible assumption); (case hb => ((try simp only [List.length_reverse]); first | omega | ((have h99 := take_pre (by with_reducible assumption)); omega))); (case hs => ((try dsimp only); (try simp only [List.nil_append, List.cons_append]); (repeat ((with_reducible refine List.forall_mem_cons.mpr ⟨?_, ?_⟩); (focus (first | ((repeat (first | (with_reducible exact List.mem_cons_self) | (with_reducible refine List.mem_cons_of_mem _ ?_))); done) | (with_unfolding_all k_memK))))); first | (with_reducible exact List.forall_mem_nil _) | (intro p9 h9; (repeat (first | (with_reducible exact h9) | (with_reducible exact List.mem_append_left _ h9) | (with_reducible exact List.mem_append_right _ h9) | (with_reducible refine List.mem_cons_of_mem _ ?_)))))); (case hl => ((try simp only [AllLt, and_true]); omega))))
local macro_rules | `(tactic| walk_at "exec For Name Call cons nil") => `(tactic| (
  k_here
  (with_reducible show wpAny _ _ (exec (Stmt.For _ _ _ _ ⟨31, 8, 35, 21⟩) _) _ _ _)
  (fail_if_success (with_reducible show wpAny _ _ _ (JIn _ _ _ _ _ _ _ _) _ _))
  k_dflt (refine' jn_in (Str.ofString "left") (Str.ofString "lap") (Str.ofString "coins") ?k1 ?k0 ?k2 ?k3 ?k4 ?_ (fun u' v' vs' ns' n' h' tk' hI' hLe' F' N' => ?_); (case k1 => k_asm); (case k0 => with_unfolding_all rfl); (case k2 => k_asm); (case k3 => k_updF); (case k4 => with_reducible assumption))
  rotate_left
  (focus ((try dsimp only at N'); (try k_sweep)))
  rotate_left))
local macro_rules | `(tactic| walk_at "JIn") => `(tactic| first
  | (refine' jIn_endP ?F ?N ?hn ?hi ?hb ?hm; (case F => first | k_asm | (with_unfolding_all assumption)); (case N => first | k_asm | (with_unfolding_all assumption)); (case hn => ((try dsimp only); (try simp only [List.nil_append, List.cons_append]); (repeat ((with_reducible refine List.forall_mem_cons.mpr ⟨?_, ?_⟩); (focus (first | ((repeat (first | (with_reducible exact List.mem_cons_self) | (with_reducible refine List.mem_cons_of_mem _ ?_))); done) | (with_unfolding_all k_memK))))); first | (with_reducible exact List.forall_mem_nil _) | (intro p9 h9; (repeat (first | (with_reducible exact h9) | (with_reducible exact List.mem_append_left _ h9) | (with_reducible exact List.mem_append_right _ h9) | (with_reducible refine List.mem_cons_of_mem _ ?_)))))); (case hi => with_reducible assumption); (case hb => ((try simp only [rangeKs_length] at *); omega)); (case hm => (intro z9 h91 h92; simp only [h91, h92, if_false, List.contains_nil, Bool.false_eq_true, kstB])))
  | (refine' jIn_end ?hi ?hb ?F ?hm ?N ?hn; (case F => first | k_asm | (with_unfolding_all assumption)); (case N => first | k_asm | (with_unfolding_all assumption)); (case hn => ((try dsimp only); (try simp only [List.nil_append, List.cons_append]); (repeat ((with_reducible refine List.forall_mem_cons.mpr ⟨?_, ?_⟩); (focus (first | ((repeat (first | (with_reducible exact List.mem_cons_self) | (with_reducible refine List.mem_cons_of_mem _ ?_))); done) | (with_unfolding_all k_memK))))); first | (with_reducible exact List.forall_mem_nil _) | (intro p9 h9; (repeat (first | (with_reducible exact h9) | (with_reducible exact List.mem_append_left _ h9) | (with_reducible exact List.mem_append_right _ h9) | (with_reducible refine List.mem_cons_of_mem _ ?_)))))); (case hi => with_reducible assumption); (case hb => ((try simp only [rangeKs_length] at *); omega)); (case hm => (intro z9 h91 h92; simp only [h91, h92, if_false, List.contains_nil, Bool.false_eq_true, kstB])))
  | fail "x")
-- the draw
local macro_rules | `(tactic| walk_at "call ref") => `(tactic| (
  k_here
  (with_reducible show wpAny _ _ (call (Value.ref 92) [Value.ref _, Value.int _ _]) _ _ _)
  (k_dflt (refine' jn_coin ?k1 ?k2 ?k3 ?k4 ?k5 ?_ (fun r' t' vs' ns' n' h' tk' hlo' hhi' hI' hLe' F' N' => ?_); (case k1 => k_asm); (case k2 => k_asm); (case k3 => first | k_updF | fail "k3"); (case k4 => with_reducible assumption); (case k5 => first | assumption | omega)))
  (focus (((refine wpAny_call ?_; k_dflt k_enter))))
  rotate_left
  (focus ((try dsimp only at N'); (try k_sweep)))
  ))
local macro_rules | `(tactic| walk_at "call builtin:list.pop") => `(tactic| (k_here; (with_reducible show wpAny _ _ (call (Value.builtin _) [Value.ref _]) _ _ _); k_dflt (refine' kpa_pop ?F ?N ?U ?i ?l ?z ?_; (case F => k_asm); (case N => k_asm); (case U => k_upd); (case i => with_reducible assumption); (case l => exact pos_of_ne (by with_reducible assumption) (by with_reducible assumption)); (case z => exact size_of (by with_reducible assumption) (by with_reducible assumption))); (intro h' t' F' N' hI'; (try dsimp only [List.nil_append, List.cons_append] at N'))))
local macro_rules | `(tactic| walk_at "JCoin") => `(tactic| ((k_dflt (refine' jCoin_end ?N ?hs ?hi ?hb ?F ?h0 ?h1; (case N => k_asm); (case hs => ((try dsimp only); (try simp only [List.nil_append, List.cons_append]); (repeat ((with_reducible refine List.forall_mem_cons.mpr ⟨?_, ?_⟩); (focus (first | ((repeat (first | (with_reducible exact List.mem_cons_self) | (with_reducible refine List.mem_cons_of_mem _ ?_))); done) | (with_unfolding_all k_memK))))); first | (with_reducible exact List.forall_mem_nil _) | (intro p9 h9; (repeat (first | (with_reducible exact h9) | (with_reducible exact List.mem_append_left _ h9) | (with_reducible exact List.mem_append_right _ h9) | (with_reducible refine List.mem_cons_of_mem _ ?_)))))); (case hi => with_reducible assumption); (case hb => (first | assumption | ((simp only [List.length_dropLast]); omega))); (case F => k_asm); (case h0 => first | exact Int.fmod_nonneg_of_pos _ (by decide) | decide | omega); (case h1 => first | exact Int.fmod_lt_of_pos _ (by decide) | decide | omega)))))
-- the block that draws
local macro_rules | `(tactic| walk_at "CompSrc") => `(tactic| (
  k_here
  (k_dflt (refine' LCg.CompSrc.range ?c1 ?c2 ?c3 ?c4 ?c5 ?c6 ?c7 ?_; (case c1 => rfl); (case c2 => k_asm); (case c3 => k_asm); (case c4 => assumption); (case c5 => (first | exact small_one (by kcf_bnd) (by kcf_bnd) (by kcf_bnd) (by kcf_bnd) | decide)); (case c6 => (first | exact rangeSize_nat _ _ | rfl)); (case c7 => (first | exact Nat.le_of_ble_eq_true rfl | (rw [PySem.sizeLine_eq]; first | omega | ((simp only [List.size_toArray]); omega))))))
  intro g'
  (k_dflt (refine' coin_rest ?hi ?hb ?hm ?U ?_ ?_; (case hi => with_reducible assumption); (case hb => with_reducible assumption); (case hm => k_mem); (case U => k_updF)))
  (focus (intro vs' ns' nn' i' t' I' oI' C' oC' D' m' ys' h' tk' E' hI' hLe' hC' hx' F' N' off' ofa' ne'; (try dsimp only at N' off'); (try k_sweep)))
  rotate_left
  (focus (intro ys' zs' vs' ns' nn' hZ' hZl' hI' hLe'; (try dsimp only)))))
local macro_rules | `(tactic| walk_at "CompEnd") => `(tactic| ((k_dflt (refine' cel_end ?F ?N ?hs ?hi ?hb ?off; (case F => k_asm); (case N => k_asm); (case hs => ((try dsimp only); (try simp only [List.nil_append, List.cons_append]); (repeat ((with_reducible refine List.forall_mem_cons.mpr ⟨?_, ?_⟩); (focus (first | ((repeat (first | (with_reducible exact List.mem_cons_self) | (with_reducible refine List.mem_cons_of_mem _ ?_))); done) | (with_unfolding_all k_memK))))); first | (with_reducible exact List.forall_mem_nil _) | (intro p9 h9; (repeat (first | (with_reducible exact h9) | (with_reducible exact List.mem_append_left _ h9) | (with_reducible exact List.mem_append_right _ h9) | (with_reducible refine List.mem_cons_of_mem _ ?_)))))); (case hi => with_reducible assumption); (case hb => (first | assumption | ((simp only [List.length_dropLast]); omega))); (case off => with_reducible assumption)))))
-- the main loop
local macro_rules | `(tactic| walk_at "pyIter ref") => `(tactic| (
  k_here
  (with_reducible show wpAny _ _ (pyIter (Value.ref _)) (fun it s₂ => LoopAtV _ _ _ _ _ _ _ _ _ it s₂) _ _)
  (rename Fr _ _ _ _ => lF')
  (rename News _ _ _ _ => lN')
  (with_unfolding_all refine' main_loop (Str.ofString "passed") [Str.ofString "left"] ?hL ?hh ?hr ?hsm ?hn ?h12 lF' lN' ?hi ?hb ?hl ?hy ?hd ?hc ?hm ?hw ?T ?h0 ?h9 ?_ ?_)
  (case hL => k_dflt rfl)
  (case hh => k_dflt rfl)
  (case hy => with_unfolding_all rfl)
  (case hr => with_unfolding_all assumption)
  (case hsm => k_dflt exact small_one (by omega) (by omega) (by omega) (by omega))
  (case hn => k_dflt exact rangeSize_nat _ _)
  (case h12 => omega)
  (case hi => with_reducible assumption)
  (case hb => with_reducible assumption)
  (case hl => k_dflt k_mem)
  (case hd => k_dflt k_mem)
  (case hc => with_unfolding_all rfl)
  (case hm => k_dflt k_mem)
  (case hw => k_dflt k_asm)
  (case T => k_dflt (repeat (first | exact Tri.nil | apply Tri.one | apply Tri.two | apply Tri.three | apply Tri.keep)))
  (case h0 => omega)
  (case h9 => omega)
  (all_goals (try clear lF' lN'))
  (focus (intro vs' ns' n' nx' nt' oW' v' pt' k' t' u' h' tk' own' hoff' hI' hLe' hw' hx0' hx1' F' N'; (try dsimp only at F' N' hoff'); (try simp only [List.cons_append, List.nil_append] at N'); (try simp only [List.map_cons, List.map_nil] at hoff'); (try k_fold)))
  rotate_left
  (focus (intro vs' ns' n' nx' nt' oW' v' pt' u' h' tk' hI' hw' F' N'; (try dsimp only at F' N'); (try k_fold)))
  rotate_left))
local macro_rules | `(tactic| walk_at "storeName") => `(tactic| (
  (with_reducible show wpAny _ _ (storeName _ (Str.ofString "which") (Value.int _ _)) _ _ _)
  (refine' split3 ?a ?b ?_ ?_ ?_; (case a => with_reducible assumption); (case b => with_reducible assumption))))
-- the block with a test
local macro_rules | `(tactic| walk_at "CompSrcT") => `(tactic| (
  k_here
  (k_dflt (refine' LCt.CompSrcT.range ?c1 ?c2 ?c3 ?c4 ?c5 ?c6 ?c7 ?_; (case c1 => rfl); (case c2 => k_asm); (case c3 => k_asm); (case c4 => assumption); (case c5 => exact small_one (by omega) (by omega) (by omega) (by omega)); (case c6 => exact rangeSize_nat _ _); (case c7 => (rw [PySem.sizeLine_eq]; omega))))
  intro g'
  (k_dflt (refine' filt_rest ?d1 ?d2 ?d3 ?d4 ?d5 ?d6 ?d7 ?d8 ?d9 ?d10 ?_ ?_))
  (case d1 => with_unfolding_all rfl)
  (case d2 => k_dflt k_mem)
  (case d3 => with_reducible assumption)
  (case d4 => k_dflt k_mem)
  (case d5 => with_unfolding_all rfl)
  (case d6 => k_dflt k_mem)
  (case d7 => with_reducible assumption)
  (case d8 => with_unfolding_all rfl)
  (case d9 => k_dflt k_mem)
  (case d10 => with_reducible assumption)
  (focus (intro k' t' I' oI' C' oC' D' m' ys' h' tk' E' hC' hx' F' N' off' ne'; (try k_sweep)))
  rotate_left
  (focus (intro ys' hZ'; (try dsimp only)))))
local macro_rules | `(tactic| walk_at "compareOp NotIn int ref") => `(tactic| (k_here; k_dflt (refine' notin_list_ints ?hl ?hi ?_; (case hl => exact News.isList (by k_asm) (by k_mem)); (case hi => with_reducible assumption))))
local macro_rules | `(tactic| walk_at "compareOp In int ref") => `(tactic| (k_here; k_dflt (refine' in_list_ints ?hl ?hi ?_; (case hl => exact News.isList (by k_asm) (by k_mem)); (case hi => with_reducible assumption))))
local macro_rules | `(tactic| walk_at "CompEnd") => `(tactic| (k_dflt (first
  | (refine' fel_end ?F ?N ?hs ?off ?hk; (case F => k_asm); (case N => k_asm); (case hs => ((try dsimp only); (try simp only [List.nil_append, List.cons_append]); (repeat ((with_reducible refine List.forall_mem_cons.mpr ⟨?_, ?_⟩); (focus (first | ((repeat (first | (with_reducible exact List.mem_cons_self) | (with_reducible refine List.mem_cons_of_mem _ ?_))); done) | (with_unfolding_all k_memK))))); first | (with_reducible exact List.forall_mem_nil _) | (intro p9 h9; (repeat (first | (with_reducible exact h9) | (with_reducible exact List.mem_append_left _ h9) | (with_reducible exact List.mem_append_right _ h9) | (with_reducible refine List.mem_cons_of_mem _ ?_)))))); (case off => with_reducible assumption); (case hk => first | exact notin_of (by with_reducible assumption) | exact notmem_of_any (by with_reducible assumption)))
  | (refine' fno_end ?F ?N ?hs ?off ?hk; (case F => k_asm); (case N => k_asm); (case hs => ((try dsimp only); (try simp only [List.nil_append, List.cons_append]); (repeat ((with_reducible refine List.forall_mem_cons.mpr ⟨?_, ?_⟩); (focus (first | ((repeat (first | (with_reducible exact List.mem_cons_self) | (with_reducible refine List.mem_cons_of_mem _ ?_))); done) | (with_unfolding_all k_memK))))); first | (with_reducible exact List.forall_mem_nil _) | (intro p9 h9; (repeat (first | (with_reducible exact h9) | (with_reducible exact List.mem_append_left _ h9) | (with_reducible exact List.mem_append_right _ h9) | (with_reducible refine List.mem_cons_of_mem _ ?_)))))); (case off => with_reducible assumption); (case hk => first | exact in_of (by with_reducible assumption) | exact mem_of_any (by with_reducible assumption) | fail "x")))))
local macro_rules | `(tactic| walk_at "FinA") => `(tactic| ((unfold LCg.FinA); intro D' h' tk' F' N' o1'; (try dsimp only at N' o1'); (try dsimp only)))
local macro_rules | `(tactic| walk_at "MTurn") => `(tactic| (
  (try dsimp only)
  (repeat (k_unfold; (try dsimp only)))
  first
  | (with_reducible show MTurn _ _ _ _ _ _ _ _ _ _ _ _ (Flow.ret _) _
     exfalso
     first | omega | exact absurd rfl (by with_reducible assumption))
  | (k_dflt (refine' mTurn_end ?hf ?F ?N ?hG ?hO ?hi ?hb ?hv ?hy ?e ?h0 ?h1 ?hz)
     (case hf => first | exact Or.inl rfl | exact Or.inr rfl)
     (case F => k_dflt k_asm)
     (case N => k_dflt k_asm)
     (case hG => k_dflt ((try dsimp only); (try simp only [List.nil_append, List.cons_append]); (repeat ((with_reducible refine List.forall_mem_cons.mpr ⟨?_, ?_⟩); (focus (first | ((repeat (first | (with_reducible exact List.mem_cons_self) | (with_reducible refine List.mem_cons_of_mem _ ?_))); done) | (with_unfolding_all k_memK))))); first | (with_reducible exact List.forall_mem_nil _) | (intro p9 h9; (repeat (first | (with_reducible exact h9) | (with_reducible exact List.mem_append_left _ h9) | (with_reducible exact List.mem_append_right _ h9) | (with_reducible refine List.mem_cons_of_mem _ ?_))))))
     (case hO => k_dflt ((try dsimp only); (try simp only [List.nil_append, List.cons_append]); (repeat ((with_reducible refine List.forall_mem_cons.mpr ⟨?_, ?_⟩); (focus (first | ((repeat (first | (with_reducible exact List.mem_cons_self) | (with_reducible refine List.mem_cons_of_mem _ ?_))); done) | (with_unfolding_all k_memK))))); first | (with_reducible exact List.forall_mem_nil _) | (intro p9 h9; (repeat (first | (with_reducible exact h9) | (with_reducible exact List.mem_append_left _ h9) | (with_reducible exact List.mem_append_right _ h9) | (with_reducible refine List.mem_cons_of_mem _ ?_))))))
     (case hi => with_reducible assumption)
     (case hb => with_reducible assumption)
     (case hv => with_reducible assumption)
     (case hy => with_unfolding_all rfl)
     (case e => first | rfl | assumption | omega)
     (case h0 => omega)
     (case h1 => omega)
     (case hz => (intro z9 h91 h92 h93; have h94 := ne_left h93; simp only [h91, h92, h93, h94, if_false, Bool.false_eq_true])))))
local macro_rules | `(tactic| walk_at "subscriptTail Name Name ref int") => `(tactic| (k_here; (with_reducible show wpAny _ _ (subscriptTail _ _ (Value.ref _) (Value.int _ _)) _ _ _); k_dflt (refine' item_lit ?N ?m ?a ?b ?x ?_ ?s; (case N => k_asm); (case m => k_mem); (case a => decide); (case b => decide); (case x => with_unfolding_all rfl); (case s => with_unfolding_all rfl))))
local macro_rules | `(tactic| walk_at "callWith ref cons nil") => `(tactic| (k_here; (with_reducible show wpAny _ _ (callWith _ (Value.ref _) [Value.ref _] _ _) _ _ _); k_dflt (refine' callWith_K0 ?k1 ?k2 ?_; (case k1 => (refine' Frag.In.keeps ?a (Fr.keep ?b); (case b => with_reducible assumption); (case a => with_reducible assumption))); (case k2 => k_is))))
-- the while loop
local macro_rules | `(tactic| walk_at "exec While Compare cons nil") => `(tactic| (
  k_here
  (with_reducible show wpAny _ _ (exec (Stmt.While _ _ _ _) _) _ _ _)
  (rename Fr _ _ _ _ => lF')
  (rename News _ _ _ _ => lN')
  (with_unfolding_all refine' var_loop (Str.ofString "k") lF' lN' ?hk ?hd ?hn ?hs ?hx ?he ?h2 ?hu ?hi ?hl ?U ?_)
  (case hk => with_unfolding_all rfl)
  (case hd => k_dflt k_mem)
  (case hn => first | with_unfolding_all rfl | omega)
  (case hs => with_unfolding_all rfl)
  (case hx => k_dflt k_mem)
  (case he => k_dflt k_mem)
  (case h2 => with_unfolding_all rfl)
  (case hu => k_dflt k_mem)
  (case hi => with_reducible assumption)
  (case hl => omega)
  (case U => k_dflt k_updF)
  (clear lF' lN')
  (intro k' nt' kt' f' h' tk' hlf' hp' hq' F' N'; (try dsimp only at F' N'); (try k_fold))))
local macro_rules | `(tactic| walk_at "VPost") => `(tactic| (
  (try dsimp only)
  (repeat (k_unfold; (try dsimp only)))
  (k_dflt (refine' vPost_end ?F ?N ?hG ?hy ?e1 ?e2 ?hz ?hin))
  (case F => k_dflt k_asm)
  (case N => k_dflt k_asm)
  (case hG => ((try dsimp only); (with_reducible exact fun _ hp => hp)))
  (case hy => with_unfolding_all rfl)
  (case e1 => first | rfl | omega)
  (case e2 => first | rfl | omega)
  (case hz => (intro z9 h91; simp only [h91, if_false]))
  (case hin => exact mem_of_any (by assumption))))
-- the questions
local macro_rules | `(tactic| walk_at "call builtin:min") => `(tactic| (
  k_here
  (with_reducible show wpAny _ _ (call (Value.builtin _) [Value.ref _]) _ _ _)
  (k_dflt (refine' min_left ?m ?i ?f ?n ?F ?N ?hh ?_))
  (case F => k_dflt k_asm)
  (case N => k_dflt k_asm)
  (case m => k_dflt k_mem)
  (case i => with_reducible assumption)
  (case f => with_reducible assumption)
  (case n => omega)
  (case hh => with_unfolding_all rfl)
  (intro h' t' tk' F' N' b1' b2')))
local macro_rules | `(tactic| walk_at "compareOp NotEq ref ref") => `(tactic| (
  k_here
  (with_reducible show wpAny _ _ (compareOp CmpOp.NotEq (Value.ref _) (Value.ref _)) _ _ _)
  (k_dflt (refine' ne_pair ?N ?a ?ca ?da ?b ?cb ?db ?e ?hx ?hu ?_))
  (case N => k_dflt k_asm)
  (case a => k_dflt k_mem)
  (case ca => with_unfolding_all rfl)
  (case da => with_unfolding_all rfl)
  (case b => k_dflt k_mem)
  (case cb => with_unfolding_all rfl)
  (case db => with_unfolding_all rfl)
  (case e => first | exact LF.eq (by with_reducible assumption) (by with_reducible assumption) (by with_reducible assumption) (notmem_of_any (by with_reducible assumption)) | fail "e")
  (case hx => with_unfolding_all rfl)
  (case hu => k_dflt ke_room)
  (intro e')))
local macro_rules | `(tactic| walk_at "compareOp Eq ref ref") => `(tactic| (
  k_here
  (with_reducible show wpAny _ _ (compareOp CmpOp.Eq (Value.ref _) (Value.ref _)) _ _ _)
  (k_dflt (refine' eq_nest ?N ?ma ?mb ?m1 ?m2 ?m3 ?m4 ?i1 ?i2 ?i3 ?i4 ?hu ?_))
  (case N => k_dflt k_asm)
  (case ma => k_dflt k_mem)
  (case mb => k_dflt k_mem)
  (case m1 => k_dflt k_mem)
  (case m2 => k_dflt k_mem)
  (case m3 => k_dflt k_mem)
  (case m4 => k_dflt k_mem)
  (case i1 => with_reducible assumption)
  (case i2 => with_reducible assumption)
  (case i3 => with_reducible assumption)
  (case i4 => with_reducible assumption)
  (case hu => k_dflt ke_room)))

set_option maxRecDepth 100000 in
set_option maxHeartbeats 64000000 in
theorem PySem.Challenge.cw_rh0060_01_holds : PySem.Challenge.rw_rh0060_01.Holds := by
  (k_with "pyIter ref" => k_of "cell" => k_state (fun pre cs => cs.length ≤ 20 * pre.length) "coins")
  (k_with "pyIter ref" => k_of "lap" => k_state_given ["coins!"] (fun cs0 pre cs left => cs.length = cs0.length + pre.length) "coins" "left")
  open_k
