import PyProof.Rows.All
import Wide.All
import OpenK.AllK
import Wide.FinOn
import PySem.Challenge.RW_xm0696_01
set_option Elab.async false
set_option maxRecDepth 100000

namespace Mine
open PySem PySem.W PySem.Calls PyProof.Rows PyProof.V PySem.Spec

/-- what a call of the def at `f` with `vs` does, from any frame, over the ledger `news`: `R` is what is known of its answer, the ledger behind it -/
abbrev Cl (prog : Program) (w : World) (K : Frag) (p : Program) (loose : List Str) (mean : ExcName → Option Value) (mg mb : Str → Option Value) (f : Addr) (k : Nat) (vs : List Value) (news : List (Addr × Obj)) (R : Value → List (Addr × Obj) → Prop) : Prop :=
  ∀ (dp un : Nat) (gd : Option (List Code)) (cn : Str) (cs : Scope) (a : Addr) (ccd : Value) (cl : List (Str × Addr)) (outer : List Env) (A₀ : Around) (base h₀ : Heap) (L : Addr) (m : Str → Option Value) (s : Shared) (Q E : Value → Shared → Prop),
    Below A₀ base outer h₀ → Fr h₀ L s.heap m → K.In h₀ → News h₀ L s.heap news → Top p loose mean mg mb h₀ → cs.kind = .function → dp + k < recursionLimit → un + 8 * k < cLine →
    (∀ (v : Value) (nx : List (Addr × Obj)) (h' : Heap) (tk' : Nat), R v nx → Fr h₀ L h' m → News h₀ L h' nx → Q v { s with heap := h', toks := tk' }) →
    wpAny (model prog w) (ktrTop dp un gd cn cs L a ccd cl outer) (call (.ref f) vs) Q E s

section
variable {prog : Program} {w : World} {K : Frag} {p : Program} {loose : List Str} {mean : ExcName → Option Value} {mg mb : Str → Option Value} {f : Addr} {k k' : Nat} {vs : List Value} {news news' : List (Addr × Obj)} {R R' : Value → List (Addr × Obj) → Prop}
theorem Cl.mono (h : Cl prog w K p loose mean mg mb f k vs news R) (hn : ∀ q ∈ news, q ∈ news') (hR : ∀ v nx, R v nx → ∃ nx', R' v nx' ∧ ∀ q ∈ nx', q ∈ nx) (hk : k ≤ k') : Cl prog w K p loose mean mg mb f k' vs news' R' := by
  intro dp un gd cn cs a ccd cl outer A₀ base h₀ L m s Q E B F X N T hf hd hu hret
  refine h dp un gd cn cs a ccd cl outer A₀ base h₀ L m s Q E B F X (fun q hq => N q (hn q hq)) T hf (by omega) (by omega) ?_
  intro v nx h' tk' hr F' N'
  obtain ⟨nx', h1, h2⟩ := hR v nx hr
  exact hret v nx' h' tk' h1 F' fun q hq => N' q (h2 q hq)
end

theorem size_ints {vs : List Value} {ns : List Int} (h : IntsAre vs ns) : vs.toArray.size = ns.length := by rw [List.size_toArray]; exact h.length
theorem getD_in {ns : List Int} {k : Int} (h0 : 0 ≤ k) (h1 : k < ns.length) : ns.getD k.toNat 0 ∈ ns := by
  have h2 : k.toNat < ns.length := by omega
  rw [List.getD_eq_getElem?_getD, List.getElem?_eq_getElem h2]
  exact List.getElem_mem h2
/-- the source: two ints, as the law's draws leave them -/
def SrcOk (o : Obj) : Prop := ∃ a b ta tb n, o = listOf #[.int a ta, .int b tb] n ∧ 0 ≤ a ∧ 0 ≤ b ∧ b < 2147483647

theorem UpdF.mem {d : Addr} {o : Obj} {news : List (Addr × Obj)} {u : Obj → List (Addr × Obj)} (U : UpdF d o news u) {q : Addr × Obj} (hq : q ∈ news) (hd : q.1 ≠ d) (o' : Obj) : q ∈ u o' := by
  obtain ⟨pre, post, rfl, e, _, _⟩ := U.split
  rw [e]
  rcases List.mem_append.mp hq with h | h
  · exact List.mem_append.mpr (.inl h)
  · rcases List.mem_cons.mp h with rfl | h
    · exact absurd rfl hd
    · exact List.mem_append.mpr (.inr (.tail _ h))

theorem ne_of_allLt {d : Addr} {l : List (Addr × Obj)} (h : AllLt d l) : ∀ q ∈ l, q.1 ≠ d := fun q hq => Nat.ne_of_lt (ktn_ltOf h q hq)

def FrJ (x : Str) (b m : Str → Option Value) : Prop := ∀ z, z ≠ x → m z = b z
theorem FrJ.fr {x : Str} {b m : Str → Option Value} {h₀ h : Heap} {L : Addr} {v : Value} (j : FrJ x b m) (F : Fr h₀ L h (fun y => if y = x then some v else m y)) : Fr h₀ L h (fun y => if y = x then some v else b y) := by
  have e : (fun y => if y = x then some v else m y) = fun y => if y = x then some v else b y := by
    funext z
    by_cases hz : z = x
    · simp [hz]
    · simp only [if_neg hz]; exact j z hz
  rw [← e]; exact F
theorem FrJ.out {x : Str} {b m : Str → Option Value} {h₀ h : Heap} {L : Addr} (j : FrJ x b m) (F : Fr h₀ L h m) : Fr h₀ L h (fun y => if y = x then m x else b y) := by
  have e : m = fun y => if y = x then m x else b y := by
    funext z
    by_cases hz : z = x
    · simp [hz]
    · simp only [if_neg hz]; exact j z hz
  rw [← e]; exact F

section
variable {prog : Program} {w : World} {A : Around} {E : Value → Shared → Prop} {s : Shared} {env : Env} {h₀ : Heap} {x : Str} {body : List Stmt} {Q : Flow → Shared → Prop}
/-- a loop over a range, by an invariant of the turn's number, the frame and the ledger -/
theorem my_range {r : Addr} {a₀ b₀ : Int} {t₀ u₀ v₀ : Tok} {n : Nat} {m₀ : Str → Option Value} {news : List (Addr × Obj)} (J : Nat → (Str → Option Value) → List (Addr × Obj) → Prop)
    (hh : A.handled = none) (hr : IsRange s.heap r a₀ b₀ 1 t₀ u₀ v₀) (hsmall : Builtin.Range.small a₀ b₀ 1 = true) (hsz : Builtin.Range.rangeSize a₀ b₀ 1 = (n : Int)) (F : Fr h₀ env.locals s.heap m₀) (N : News h₀ env.locals s.heap news) (hj : J 0 m₀ news)
    (turn : ∀ i t m₁ nx h tk own, i < n → OwnOff own (nx.map (·.1)) → J i m₁ nx → Fr h₀ env.locals h (fun y => if y = x then some (.int (a₀ + (i : Int)) t) else m₁ y) → News h₀ env.locals h (nx ++ own) →
      wpAny (model prog w) A (execs body env) (InvPostG h₀ env.locals (J (i + 1)) own { s with heap := h, toks := tk } Q) E { s with heap := h, toks := tk })
    (done : ∀ m₁ nx h tk, J n m₁ nx → Fr h₀ env.locals h m₁ → News h₀ env.locals h nx → Q .next { s with heap := h, toks := tk }) :
    wpAny (model prog w) A (pyIter (.ref r)) (fun it s₂ => LoopAtV prog w A h₀ env x body Q E it s₂) E s := by
  refine wpAny_pyIter_range hr hsmall ?_
  have W : Walks prog w A s.heap.objs.size [s.heap.objs.size] [s.heap.objs.size] n (fun i v => i < n ∧ ∃ t, v = .int (a₀ + i * 1) t)
      (fun i h => IsRangeIter h s.heap.objs.size (a₀ + (i : Nat) * 1) ((n : Int) - (i : Nat)) 1) := (Walks.range hh _ a₀ 1 n).bound
  refine kdr_loop J W (fun _ h => h) (fun _ h => h) ?_ ?_ ?_ ?_ (by show IsRangeIter _ _ _ _ _; rw [hsz]; simpa using Heap.get?_push_size _ rfl) (F.push _) (fun p hp => ⟨Heap.get?_push_of_some _ (N p hp).1, (N p hp).2⟩) hj ?_ ?_
  · intro i h hi b hb
    rw [List.mem_singleton.mp hb]
    exact ⟨_, hi⟩
  · intro hm
    exact absurd F.ns.lt ((List.mem_singleton.mp hm) ▸ Nat.lt_irrefl _)
  · intro b hb
    rw [List.mem_singleton.mp hb]
    exact next_is_new F
  · intro p hp hI
    exact absurd (Heap.lt_size (N p hp).1) ((List.mem_singleton.mp hI) ▸ Nat.lt_irrefl _)
  · rintro i v m₁ nx h tk own hi ⟨_, t, rfl⟩ hoff hJ F₁ N₁
    have e1 : a₀ + (i : Int) * 1 = a₀ + (i : Int) := by omega
    rw [e1] at F₁
    exact turn i t m₁ nx h tk own hi hoff hJ F₁ N₁
  · exact done
end
end Mine

namespace Mine
open PySem PySem.W PySem.Calls PyProof.Rows PyProof.V PySem.Spec
/-- which part of the proof a line of the walk is for -/
def Mark (_ : Nat) : Prop := True
theorem Mark.mk (n : Nat) : Mark n := trivial
abbrev C (KF : Params → Frag) (p : Program) (w : World) (mean : ExcName → Option Value) (mg mb : Str → Option Value) (f : Addr) (k : Nat) (vs : List Value) (news : List (Addr × Obj)) (R : Value → List (Addr × Obj) → Prop) : Prop :=
  Cl PySem.Challenge.rw_xm0696_01.row.prog w (KF w.params) p (looseW p []) mean mg mb f k vs news R
/-- behind the head: a contract first, the rest of the walk with it -/
theorem with_top {p : Program} {KF : Params → Frag} {as : List Addr} {pf : ∀ P, as = (KF P).map (·.1)} {loose : List Str} {XP : (Str → Option Value) → Heap → Prop} {r : RowW} {d : DefRec} {kwd : List (Str × Expr)} {run : Value → List Value → Sem Value}
    (P : (Params → Frag) → Program → Prop) (h1 : P KF p) (h2 : P KF p → WalkO p loose XP (kHook KF as pf).says r d kwd run) : WalkO p loose XP (kHook KF as pf).says r d kwd run := h2 h1
end Mine

namespace Mine
open PySem PySem.W PySem.Calls PyProof.Rows PyProof.V PySem.Spec

/-- a mark at which the walk stops -/
def Stop (P : Prop) : Prop := P
theorem Stop.out {P : Prop} (h : Stop P) : P := h
/-- a turn's end -/
def TurnEnd (P : Shared → Prop) (f : Flow) (s : Shared) : Prop := f = .next ∧ P s

theorem offR {own nx nx' : List (Addr × Obj)} (h : OwnOff own (nx.map (·.1))) (e : nx'.map (·.1) = nx.map (·.1)) : OwnOff own (nx'.map (·.1)) := by rw [e]; exact h

theorem ne_append {d : Addr} {a b : List (Addr × Obj)} (h1 : ∀ p ∈ a, p.1 ≠ d) (h2 : ∀ p ∈ b, p.1 ≠ d) : ∀ p ∈ a ++ b, p.1 ≠ d := fun p hp => (List.mem_append.mp hp).elim (h1 p) (h2 p)
theorem news_tl {h₀ h : Heap} {L : Addr} {a : Addr × Obj} {r : List (Addr × Obj)} (N : News h₀ L h (a :: r)) : News h₀ L h r := fun p hp => N p (.tail _ hp)
theorem news_14 {h₀ h : Heap} {L : Addr} {a b c d : Addr × Obj} {r : List (Addr × Obj)} (N : News h₀ L h (a :: b :: c :: d :: r)) : News h₀ L h (a :: d :: r) := fun p hp => N p (by
  simp only [List.mem_cons] at hp ⊢
  rcases hp with h | h | h
  · exact .inl h
  · exact .inr (.inr (.inr (.inl h)))
  · exact .inr (.inr (.inr (.inr h))))
theorem news_24 {h₀ h : Heap} {L : Addr} {a b c d : Addr × Obj} {r : List (Addr × Obj)} (N : News h₀ L h (a :: b :: c :: d :: r)) : News h₀ L h (b :: d :: r) := fun p hp => N p (by
  simp only [List.mem_cons] at hp ⊢
  rcases hp with h | h | h
  · exact .inr (.inl h)
  · exact .inr (.inr (.inr (.inl h)))
  · exact .inr (.inr (.inr (.inr h))))
section
variable {prog : Program} {w : World} {A : Around} {E : Value → Shared → Prop} {s : Shared} {env : Env} {h₀ : Heap} {body : List Stmt} {Q : Flow → Shared → Prop}

def CodesAt (c₀ : Int) (i : Nat) (code : Int) (ns : List Int) : Prop :=
  ns.length = i ∧ ns.Pairwise (· < ·) ∧ (∀ x ∈ ns, c₀ ≤ x ∧ x < code) ∧ c₀ ≤ code ∧ code ≤ c₀ + 4 * i

theorem CodesAt.next {c₀ : Int} {i : Nat} {code d : Int} {ns : List Int} (h : CodesAt c₀ i code ns) (hd : d ∈ [1, 1, 1, 2, 4]) : CodesAt c₀ (i + 1) (code + d) (ns ++ [code]) := by
  obtain ⟨h1, h2, h3, h4, h5⟩ := h
  have h6 : 1 ≤ d ∧ d ≤ 4 := by
    simp only [List.mem_cons, List.not_mem_nil, or_false] at hd
    omega
  refine ⟨by simp [h1], ?_, ?_, by omega, by omega⟩
  · rw [List.pairwise_append]
    refine ⟨h2, List.pairwise_singleton _ _, ?_⟩
    intro x hx y hy
    rw [List.mem_singleton.mp hy]
    exact (h3 x hx).2
  · intro x hx
    rcases List.mem_append.mp hx with hx | hx
    · have := h3 x hx; omega
    · rw [List.mem_singleton.mp hx]; omega

def Good (ns : List Int) : Prop := ns.Nodup ∧ ns.length ≤ 10 ∧ ∀ x ∈ ns, -4 ≤ x ∧ x ≤ 10 ^ 20 + 40
theorem Good.perm {ns ms : List Int} (h : Good ns) (p : ns.Perm ms) : Good ms := ⟨(p.nodup_iff).mp h.1, by rw [← p.length_eq]; exact h.2.1, fun x hx => h.2.2 x (p.mem_iff.mpr hx)⟩
theorem CodesAt.good {c₀ : Int} {i : Nat} {code : Int} {ns : List Int} (h : CodesAt c₀ i code ns) (hn : i ≤ 10) (hc : c₀ ∈ [-4, 0, 65530, 10 ^ Int.toNat 20]) : Good ns := by
  obtain ⟨h1, h2, h3, h4, h5⟩ := h
  have h6 : -4 ≤ c₀ ∧ c₀ ≤ 10 ^ 20 := by
    have e : Int.toNat 20 = 20 := rfl
    simp only [List.mem_cons, List.not_mem_nil, or_false, e] at hc
    rcases hc with rfl | rfl | rfl | rfl <;> decide
  refine ⟨h2.imp (fun h => by omega), by omega, fun x hx => ?_⟩
  have := h3 x hx
  omega
theorem Good.rev {ns : List Int} (h : Good ns) : Good ns.reverse := h.perm (List.reverse_perm ns).symm
theorem Good.rot {ns : List Int} (h : Good ns) (k : Nat) : Good (ns.drop k ++ ns.take k) := h.perm (by
  have := List.perm_append_comm (l₁ := ns.take k) (l₂ := ns.drop k)
  rw [List.take_append_drop] at this
  exact this)

theorem codes_loop {r fnd src : Addr} {o : Obj} {b : Int} {t₀ u₀ v₀ : Tok} {m₀ : Str → Option Value} {rest : List (Addr × Obj)} {c₀ : Int} {tc₀ : Tok}
    (hh : A.handled = none) (hr : IsRange s.heap r 0 b 1 t₀ u₀ v₀) (hb0 : 0 ≤ b) (hb : b < 11) (F : Fr h₀ env.locals s.heap m₀) (N : News h₀ env.locals s.heap ((fnd, listOf #[] 0) :: (src, o) :: rest)) (ho : SrcOk o)
    (hc : m₀ (Str.ofString "code") = some (.int c₀ tc₀)) (hne : fnd ≠ src) (hr1 : ∀ p ∈ rest, p.1 ≠ src) (hr2 : ∀ p ∈ rest, p.1 ≠ fnd)
    (turn : ∀ (i : Nat) (k : Int) (t : Tok) (code : Int) (tc : Tok) (vs : List Value) (ns : List Int) (c : Nat) (o₁ : Obj) (h : Heap) (tk : Nat) (own : List (Addr × Obj)), CodesAt c₀ i code ns → vs.length ≤ 10 → IntsAre vs ns → SrcOk o₁ → (∀ p ∈ own, p.1 ≠ src) → (∀ p ∈ own, p.1 ≠ fnd) →
      Fr h₀ env.locals h (fun y => if y = Str.ofString "turn" then some (.int k t) else if y = Str.ofString "code" then some (.int code tc) else m₀ y) → News h₀ env.locals h ((fnd, listOf vs.toArray c) :: (src, o₁) :: (rest ++ own)) →
      wpAny (model prog w) A (execs body env) (TurnEnd fun s' => ∃ h' tk' d tc' c' tv o₂ u, s' = { s with heap := h', toks := tk' } ∧ d ∈ [(1 : Int), 1, 1, 2, 4] ∧ SrcOk o₂ ∧
        Fr h₀ env.locals h' (fun y => if y = Str.ofString "code" then some (.int (code + d) tc') else if y = Str.ofString "turn" then u else if y = Str.ofString "code" then some (.int code tc) else m₀ y) ∧ News h₀ env.locals h' ((fnd, listOf (vs.toArray.push (.int code tv)) c') :: (src, o₂) :: (rest ++ own))) E { s with heap := h, toks := tk })
    (done : ∀ (n : Nat) (u : Option Value) (code : Int) (tc : Tok) (vs : List Value) (ns : List Int) (c : Nat) (o₁ : Obj) (h : Heap) (tk : Nat), n ≤ 10 → CodesAt c₀ n code ns → IntsAre vs ns → SrcOk o₁ → vs.length ≤ 10 →
      Fr h₀ env.locals h (fun y => if y = Str.ofString "turn" then u else if y = Str.ofString "code" then some (.int code tc) else m₀ y) → News h₀ env.locals h ((fnd, listOf vs.toArray c) :: (src, o₁) :: rest) → Q .next { s with heap := h, toks := tk }) :
    wpAny (model prog w) A (pyIter (.ref r)) (fun it s₂ => LoopAtV prog w A h₀ env (Str.ofString "turn") body Q E it s₂) E s := by
  let J : Nat → (Str → Option Value) → List (Addr × Obj) → Prop := fun i m nx => ∃ code tc vs ns c o₁, CodesAt c₀ i code ns ∧ IntsAre vs ns ∧ SrcOk o₁ ∧
    FrJ (Str.ofString "turn") (fun y => if y = Str.ofString "code" then some (.int code tc) else m₀ y) m ∧ nx = (fnd, listOf vs.toArray c) :: (src, o₁) :: rest
  refine my_range (n := (b - 0).toNat) J hh hr (small_one (by decide) (by decide) (by omega) (by omega)) (rangeSize_nat _ _) F N ?_ ?_ ?_
  · refine ⟨c₀, tc₀, [], [], 0, o, ⟨rfl, .nil, by simp, by omega, by omega⟩, .nil, ho, ?_, rfl⟩
    intro z hz
    by_cases h : z = Str.ofString "code"
    · subst h; simp [hc]
    · simp [h]
  · rintro i t m₁ nx h tk own hi hoff ⟨code, tc, vs, ns, c, o₁, h1, h2, h3, h4, rfl⟩ F₁ N₁
    have F₂ := h4.fr F₁
    have hl : vs.length ≤ 10 := by rw [h2.length, h1.1]; omega
    refine wpAny_mono (turn i _ t code tc vs ns c o₁ h tk own h1 hl h2 h3 (fun p hp => hoff p hp _ (by simp)) (fun p hp => hoff p hp _ (by simp)) F₂ (by simpa using N₁)) (fun f s₂ p => ?_) fun _ _ e => e
    obtain ⟨rfl, h', tk', d, tc', c', tv, o₂, u, rfl, hd, ho₂, F', N'⟩ := p
    refine InvEndG.intro (nx := (fnd, listOf (vs ++ [Value.int code tv]).toArray c') :: (src, o₂) :: rest) F' N' ⟨code + d, tc', vs ++ [Value.int code tv], ns ++ [code], c', o₂, h1.next hd, IntsAre.append h2 (.cons code tv .nil), ho₂, ?_, rfl⟩ (offR hoff rfl) ?_ ?_
    · intro z hz
      by_cases h : z = Str.ofString "code" <;> simp [h, hz]
    · intro p hp
      have e : (vs ++ [Value.int code tv]).toArray = vs.toArray.push (.int code tv) := by simp
      rw [e] at hp
      simp only [List.mem_cons, List.mem_append] at hp ⊢
      rcases hp with h | h | h
      · exact .inl h
      · exact .inr (.inl h)
      · exact .inr (.inr (.inl h))
    · intro p hp
      simp only [List.mem_cons, List.mem_append]
      exact .inr (.inr (.inr hp))
  · rintro m₁ nx h tk ⟨code, tc, vs, ns, c, o₁, h1, h2, h3, h4, rfl⟩ F₁ N₁
    exact done (b - 0).toNat _ code tc vs ns c o₁ h tk (by omega) h1 h2 h3 (by rw [h2.length, h1.1]; omega) (h4.out F₁) N₁
end
end Mine

namespace Mine
open PySem PySem.W

/-- what runs_of does with one more sign -/
def runStep (acc : List (Int × Int)) (k : Int) : List (Int × Int) :=
  match acc.getLast? with
  | none => [(k, k)]
  | some (a, b) => if b = k - 1 then acc.dropLast ++ [(a, k)] else acc ++ [(k, k)]

theorem runStep_nil (k : Int) : runStep [] k = [(k, k)] := rfl
theorem runStep_snoc (acc : List (Int × Int)) (a b k : Int) : runStep (acc ++ [(a, b)]) k = if b = k - 1 then acc ++ [(a, k)] else (acc ++ [(a, b)]) ++ [(k, k)] := by
  unfold runStep
  simp

def runsZ (ns : List Int) : List (Int × Int) := ns.foldl runStep []
def lowsZ (ns : List Int) : List Int := ns.filter fun x => decide (x - 1 ∉ ns)
def highsZ (ns : List Int) : List Int := ns.filter fun x => decide (x + 1 ∉ ns)

theorem runsZ_snoc (ns : List Int) (k : Int) : runsZ (ns ++ [k]) = runStep (runsZ ns) k := by
  unfold runsZ; rw [List.foldl_append]; rfl

/-- in a rising row, the last of the runs ends at the last of the row -/
theorem runs_law : ∀ (n : Nat) (ns : List Int), ns.length = n → ns.Pairwise (· < ·) →
    (runsZ ns).map (·.1) = lowsZ ns ∧ (runsZ ns).map (·.2) = highsZ ns ∧ (∀ x, ns.getLast? = some x → (runsZ ns).getLast?.map (·.2) = some x) ∧ (ns = [] → runsZ ns = []) := by
  intro n
  induction n with
  | zero =>
    intro ns h _
    have : ns = [] := List.length_eq_zero_iff.mp h
    subst this
    exact ⟨rfl, rfl, (fun x h => by cases h), fun _ => rfl⟩
  | succ n ih =>
    intro ns hlen hs
    obtain ⟨ms, k, rfl⟩ : ∃ ms k, ns = ms ++ [k] := by
      refine ⟨ns.dropLast, ns.getLast (by intro e; rw [e] at hlen; cases hlen), ?_⟩
      exact (List.dropLast_concat_getLast _).symm
    have hl : ms.length = n := by simpa using hlen
    rw [List.pairwise_append] at hs
    obtain ⟨hs1, _, hs2⟩ := hs
    have hlt : ∀ x ∈ ms, x < k := fun x hx => hs2 x hx k (by simp)
    obtain ⟨i1, i2, i3, i4⟩ := ih ms hl hs1
    rw [runsZ_snoc]
    have hkn : k ∉ ms := fun h => Int.lt_irrefl _ (hlt k h)
    have hk1 : k + 1 ∉ ms ++ [k] := by
      intro h
      rcases List.mem_append.mp h with h | h
      · have := hlt _ h; omega
      · have := List.mem_singleton.mp h; omega
    -- the lows
    have low : lowsZ (ms ++ [k]) = lowsZ ms ++ if k - 1 ∈ ms then [] else [k] := by
      unfold lowsZ
      rw [List.filter_append]
      congr 1
      · refine List.filter_congr fun x hx => ?_
        have := hlt x hx
        have e : (x - 1 ∈ ms ++ [k]) ↔ x - 1 ∈ ms := by
          rw [List.mem_append, List.mem_singleton]
          constructor
          · rintro (h | h)
            · exact h
            · omega
          · exact .inl
        simp only [e]
      · by_cases h : k - 1 ∈ ms
        · simp [h]
        · have : ¬ (k - 1 = k) := by omega
          simp [h, this]
    by_cases hm : ms = []
    · subst hm
      rw [i4 rfl, runStep_nil]
      refine ⟨?_, ?_, ?_, by simp⟩
      · rw [low]; simp [lowsZ]
      · unfold highsZ
        have : ¬ (k + 1 = k) := by omega
        simp [this]
      · intro x hx; simpa using hx
    · obtain ⟨ls, z, rfl⟩ : ∃ ls z, ms = ls ++ [z] := ⟨ms.dropLast, ms.getLast hm, (List.dropLast_concat_getLast _).symm⟩
      have hz := i3 z (by simp)
      obtain ⟨rs, a, b, hr⟩ : ∃ rs a b, runsZ (ls ++ [z]) = rs ++ [(a, b)] := by
        cases hg : (runsZ (ls ++ [z])).getLast? with
        | none => rw [hg] at hz; cases hz
        | some p =>
          have hne : runsZ (ls ++ [z]) ≠ [] := by intro e; rw [e] at hg; cases hg
          refine ⟨(runsZ (ls ++ [z])).dropLast, p.1, p.2, ?_⟩
          have h1 := List.dropLast_concat_getLast hne
          have h2 : (runsZ (ls ++ [z])).getLast hne = p := by
            rw [List.getLast?_eq_some_getLast hne] at hg
            exact Option.some.inj hg
          rw [h2] at h1
          exact h1.symm
      have hb : b = z := by
        rw [hr] at hz
        simpa using hz
      subst hb
      rw [hr] at i1 i2
      rw [hr, runStep_snoc]
      rw [List.pairwise_append] at hs1
      have hls : ∀ x ∈ ls, x < b := fun x hx => hs1.2.2 x hx b (by simp)
      have hbk := hlt b (by simp)
      have hin : (k - 1 ∈ ls ++ [b]) ↔ b = k - 1 := by
        rw [List.mem_append, List.mem_singleton]
        constructor
        · rintro (h | h)
          · have := hls _ h; omega
          · exact h.symm
        · intro h; exact .inr h.symm
      -- the highs
      have e1 : highsZ (ls ++ [b]) = (ls.filter fun x => decide (x + 1 ∉ ls ++ [b])) ++ [b] := by
        unfold highsZ
        rw [List.filter_append]
        congr 1
        have : b + 1 ∉ ls ++ [b] := by
          intro h
          rcases List.mem_append.mp h with h | h
          · have := hls _ h; omega
          · have := List.mem_singleton.mp h; omega
        rw [List.filter_cons_of_pos (by simpa using this), List.filter_nil]
      have e2 : highsZ (ls ++ [b] ++ [k]) = (ls.filter fun x => decide (x + 1 ∉ ls ++ [b])) ++ (if b = k - 1 then [] else [b]) ++ [k] := by
        unfold highsZ
        rw [List.filter_append, List.filter_append]
        congr 1
        · congr 1
          · refine List.filter_congr fun x hx => ?_
            have h1 := hls x hx
            have e : (x + 1 ∈ ls ++ [b] ++ [k]) ↔ x + 1 ∈ ls ++ [b] := by
              rw [List.mem_append (t := [k]), List.mem_singleton]
              constructor
              · rintro (h | h)
                · exact h
                · omega
              · exact .inl
            simp only [e]
          · by_cases h : b = k - 1
            · have : b + 1 ∈ ls ++ [b] ++ [k] := by
                rw [List.mem_append (t := [k]), List.mem_singleton]
                right; omega
              rw [if_pos h, List.filter_cons_of_neg (fun q => (of_decide_eq_true q) this), List.filter_nil]
            · have : b + 1 ∉ ls ++ [b] ++ [k] := by
                intro hh
                rw [List.mem_append (t := [k]), List.mem_append, List.mem_singleton, List.mem_singleton] at hh
                rcases hh with (hh | hh) | hh
                · have := hls _ hh; omega
                · omega
                · omega
              rw [if_neg h, List.filter_cons_of_pos (by simpa using this), List.filter_nil]
        · rw [List.filter_cons_of_pos (by simpa using hk1), List.filter_nil]
      rw [e1] at i2
      have i2' : rs.map (·.2) = ls.filter fun x => decide (x + 1 ∉ ls ++ [b]) := by
        have : rs.map (·.2) ++ [b] = (ls.filter fun x => decide (x + 1 ∉ ls ++ [b])) ++ [b] := by simpa using i2
        exact List.append_cancel_right this
      have i1' : rs.map (·.1) ++ [a] = lowsZ (ls ++ [b]) := by simpa using i1
      rw [e2, low]
      by_cases h : b = k - 1
      · rw [if_pos h, if_pos h, if_pos (hin.mpr h)]
        refine ⟨?_, ?_, ?_, by simp⟩
        · rw [← i1']; simp
        · rw [← i2']; simp
        · intro x hx
          simpa using hx
      · rw [if_neg h, if_neg h, if_neg (fun q => h (hin.mp q))]
        refine ⟨?_, ?_, ?_, by simp⟩
        · rw [← i1']; simp
        · rw [← i2']; simp
        · intro x hx
          simpa using hx

theorem runs_lows {ns : List Int} (hs : ns.Pairwise (· < ·)) : (runsZ ns).map (·.1) = lowsZ ns := (runs_law _ ns rfl hs).1
theorem runs_highs {ns : List Int} (hs : ns.Pairwise (· < ·)) : (runsZ ns).map (·.2) = highsZ ns := (runs_law _ ns rfl hs).2.1
def pairD (p : Int × Int) : Dat := Dat.tuple [Dat.int p.1, Dat.int p.2]
def pairsD (ps : List (Int × Int)) : List Dat := ps.map pairD
end Mine
namespace Mine
theorem sorted_row (ns : List Int) (h : ns.Nodup) : ∃ zs : List Int, zs.Perm ns ∧ zs.Pairwise (· < ·) := by
  refine ⟨ns.mergeSort (fun a b => decide (a ≤ b)), List.mergeSort_perm _ _, ?_⟩
  have h1 : (ns.mergeSort (fun a b => decide (a ≤ b))).Pairwise (fun a b => decide (a ≤ b) = true) := List.pairwise_mergeSort (by intro a b c h1 h2; simp only [decide_eq_true_eq] at *; omega) (by intro a b; simp only [Bool.or_eq_true, decide_eq_true_eq]; omega) ns
  have h2 : (ns.mergeSort (fun a b => decide (a ≤ b))).Nodup := (List.mergeSort_perm _ _).nodup_iff.mpr h
  have h3 := List.Pairwise.and h1 h2
  refine h3.imp ?_
  intro a b hab
  have := of_decide_eq_true hab.1
  have := hab.2
  omega

theorem lows_perm {zs ns : List Int} (p : zs.Perm ns) : (lowsZ zs).Perm (ns.filter fun k => decide (k - 1 ∉ ns)) := by
  have e : lowsZ zs = zs.filter fun k => decide (k - 1 ∉ ns) := by
    unfold lowsZ
    refine List.filter_congr fun x _ => ?_
    have : (x - 1 ∈ zs) ↔ x - 1 ∈ ns := p.mem_iff
    simp only [this]
  rw [e]
  exact p.filter _
theorem highs_perm {zs ns : List Int} (p : zs.Perm ns) : (highsZ zs).Perm (ns.filter fun k => decide (k + 1 ∉ ns)) := by
  have e : highsZ zs = zs.filter fun k => decide (k + 1 ∉ ns) := by
    unfold highsZ
    refine List.filter_congr fun x _ => ?_
    have : (x + 1 ∈ zs) ↔ x + 1 ∈ ns := p.mem_iff
    simp only [this]
  rw [e]
  exact p.filter _
theorem le_of_lt_row {zs : List Int} (h : zs.Pairwise (· < ·)) : zs.Pairwise (· ≤ ·) := h.imp fun h => by omega
theorem lows_rising {zs : List Int} (h : zs.Pairwise (· < ·)) : (lowsZ zs).Pairwise (· ≤ ·) := (le_of_lt_row h).filter _
theorem highs_rising {zs : List Int} (h : zs.Pairwise (· < ·)) : (highsZ zs).Pairwise (· ≤ ·) := (le_of_lt_row h).filter _
theorem lows_le (ns : List Int) : (lowsZ ns).length ≤ ns.length := List.length_filter_le _ _
theorem highs_le (ns : List Int) : (highsZ ns).length ≤ ns.length := List.length_filter_le _ _
end Mine
namespace Mine
theorem runs_at {zs : List Int} (h : zs.Pairwise (· < ·)) {i : Nat} {p1 p2 : Int} (hp : (runsZ zs)[i]? = some (p1, p2)) :
    p1 = (lowsZ zs).getD ((i : Int).toNat) 0 ∧ p2 = (highsZ zs).getD ((i : Int).toNat) 0 ∧ (i : Int) < (lowsZ zs).length ∧ (i : Int) < (highsZ zs).length := by
  have hi : i < (runsZ zs).length := (List.getElem?_eq_some_iff.mp hp).1
  rw [← runs_lows h, ← runs_highs h]
  have e : ((i : Int).toNat) = i := rfl
  rw [e]
  refine ⟨?_, ?_, by rw [List.length_map]; omega, by rw [List.length_map]; omega⟩
  · simp [List.getD_eq_getElem?_getD, hp]
  · simp [List.getD_eq_getElem?_getD, hp]
end Mine

namespace Mine
open PySem PySem.W PySem.Calls PyProof.Rows PyProof.V PySem.Spec

abbrev tupOf (vs : List Value) (n : Nat) : Obj := { cls := .type "tuple", data := .seq vs.toArray n }

section
variable {prog : Program} {w : World} {A : Around} {E : Value → Shared → Prop} {s : Shared} {h₀ : Heap} {L D l : Addr} {m : Str → Option Value} {news news' n₁ : List (Addr × Obj)} {vs : List Value} {v x : Value} {n : Nat} {u : Tok}
theorem item_last {value slice : PySem.Expr} {Q : Value → Shared → Prop} (N : News h₀ L s.heap news) (hm : (l, listOf (vs ++ [v]).toArray n) ∈ news) (h : Q v s)
    (hs : subscripted slice false (.ref l) (.int (-1) u) = operate [.ref l, .int (-1) u] (getItem (.ref l) (.int (-1) u)) := by with_unfolding_all rfl) :
    wpAny (model prog w) A (subscriptTail value slice (.ref l) (.int (-1) u)) Q E s := by
  have hl : s.heap.IsList l (vs ++ [v]).toArray := ⟨_, (N _ hm).1, rfl, n, rfl⟩
  have hz : (vs ++ [v]).toArray.size = vs.length + 1 := by simp
  refine tail_any hl.typeIs slot_list_getitem.lookup (wpAny_getItem_list_neg hl (by decide) (by rw [hz]; omega) (by decide) ?_ h) hs
  rw [hz]
  have e : ((-1 : Int) + ((vs.length + 1 : Nat) : Int)).toNat = vs.length := by omega
  rw [e]
  simp

theorem set_last {Q : Unit → Shared → Prop} (F : Fr h₀ L s.heap m) (N : News h₀ L s.heap news) (U : Upd D (listOf (vs ++ [x]).toArray n) (listOf (vs ++ [v]).toArray n) news news')
    (h : ∀ h', Fr h₀ L h' m → News h₀ L h' news' → Q () { s with heap := h' }) : wpAny (model prog w) A (setItem (.ref D) (.int (-1) u) v) Q E s := by
  obtain ⟨pre, post, rfl, rfl, a, b⟩ := U.split
  have z := N (D, listOf (vs ++ [x]).toArray n) (List.mem_append.mpr (.inr (.head _)))
  have hz : (vs ++ [x]).toArray.size = vs.length + 1 := by simp
  have e : ((-1 : Int) + ((vs.length + 1 : Nat) : Int)).toNat = vs.length := by omega
  refine ki_setBack z.1 (by decide) (by rw [hz]; omega) (by decide) (h _ (F.change (Heap.SameBut.update ..) z.2.1 z.2.2) (ki_turn _ N a b ?_ ?_))
  · show (vs ++ [x]).toArray.setIfInBounds ((-1 : Int) + (vs ++ [x]).toArray.size).toNat v = (vs ++ [v]).toArray
    rw [hz, e]
    apply Array.toList_inj.mp
    simp
  · simp

theorem pairsD_ok (ps : List (Int × Int)) : ∀ d ∈ pairsD ps, kqdOk 8 d = true := by
  intro d hd
  obtain ⟨p, _, rfl⟩ := List.mem_map.mp hd
  rfl

theorem ne_some {Q : Value → Shared → Prop} {t : Addr} {k₂ : Nat} {ps : List (Int × Int)} (N : News h₀ L s.heap news) (mf : (l, listOf (vs ++ [v]).toArray n) ∈ news) (mt : (t, listOf ([] : List Value).toArray k₂) ∈ news)
    (Da : DatAll n₁ (vs ++ [v]) (pairsD ps)) (sa : ∀ p ∈ n₁, p ∈ news) (hu : A.units + 64 < cLine) (h : Q (.bool true) s) : wpAny (model prog w) A (compareOp .NotEq (.ref l) (.ref t)) Q E s := by
  refine kqd_ne N mf rfl rfl Da sa mt rfl rfl (DatAll.nil (news := [])) (fun _ h => nomatch h) (pairsD_ok ps) (fun _ h => nomatch h) hu ?_
  have : ¬ pairsD ps = [] := by
    intro e
    have := Da.length
    rw [e] at this
    simp at this
  rw [decide_eq_false this]
  exact h
theorem ne_none {Q : Value → Shared → Prop} {t : Addr} {k₂ : Nat} (N : News h₀ L s.heap news) (mf : (l, listOf ([] : List Value).toArray n) ∈ news) (mt : (t, listOf ([] : List Value).toArray k₂) ∈ news)
    (hu : A.units + 64 < cLine) (h : Q (.bool false) s) : wpAny (model prog w) A (compareOp .NotEq (.ref l) (.ref t)) Q E s := by
  refine kqd_ne N mf rfl rfl (DatAll.nil (news := [])) (fun _ h => nomatch h) mt rfl rfl (DatAll.nil (news := [])) (fun _ h => nomatch h) (fun _ h => nomatch h) (fun _ h => nomatch h) hu ?_
  rw [decide_eq_true rfl]
  exact h
end

theorem DatAll.pair_inv {news : List (Addr × Obj)} {v : Value} {p : Int × Int} (h : DatIn news v (pairD p)) : ∃ a ta tb n, v = .ref a ∧ (a, tupOf [.int p.1 ta, .int p.2 tb] n) ∈ news := by
  unfold pairD at h
  cases h with
  | tuple hm r =>
    cases r with
    | cons h1 r =>
      cases r with
      | cons h2 r =>
        cases r
        cases h1
        cases h2
        exact ⟨_, _, _, _, rfl, hm⟩
theorem DatIn.pair {news : List (Addr × Obj)} {a : Addr} {x y : Int} {tx ty : Tok} {n : Nat} (h : (a, tupOf [.int x tx, .int y ty] n) ∈ news) : DatIn news (.ref a) (pairD (x, y)) :=
  .tuple h (.cons (.int x tx) (.cons (.int y ty) .nil))

section
variable {prog : Program} {w : World} {A : Around} {E : Value → Shared → Prop} {s : Shared} {env : Env} {h₀ : Heap} {body : List Stmt} {Q : Flow → Shared → Prop}

theorem runs_loop {l fnd : Addr} {vsS : List Value} {ns : List Int} {cS : Nat} {m₀ : Str → Option Value} {rest : List (Addr × Obj)}
    (hh : A.handled = none) (hS : (l, listOf vsS.toArray cS) ∈ rest) (hi : IntsAre vsS ns) (F : Fr h₀ env.locals s.heap m₀) (N : News h₀ env.locals s.heap ((fnd, listOf ([] : List Value).toArray 0) :: rest)) (hr : ∀ p ∈ rest, p.1 ≠ fnd) (hlen : ns.length ≤ 10)
    (turn0 : ∀ (k : Int) (t : Tok) (c : Nat) (h : Heap) (tk : Nat) (tl own : List (Addr × Obj)), (∀ p ∈ own, p.1 ≠ fnd) → (∀ p ∈ tl, p.1 ≠ fnd) →
      Fr h₀ env.locals h (fun y => if y = Str.ofString "code" then some (.int k t) else m₀ y) → News h₀ env.locals h ((fnd, listOf ([] : List Value).toArray c) :: (tl ++ (rest ++ own))) →
      wpAny (model prog w) A (execs body env) (TurnEnd fun s' => ∃ h' tk' a ta tb n c', s' = { s with heap := h', toks := tk' } ∧ Fr h₀ env.locals h' (fun y => if y = Str.ofString "code" then some (.int k t) else m₀ y) ∧
        News h₀ env.locals h' ((fnd, listOf [Value.ref a].toArray c') :: (a, tupOf [.int k ta, .int k tb] n) :: (tl ++ (rest ++ own))) ∧ (∀ p ∈ own, p.1 ≠ a) ∧ (@Ne Nat a fnd)) E { s with heap := h, toks := tk })
    (turn1 : ∀ (k : Int) (t : Tok) (c : Nat) (h : Heap) (tk : Nat) (tl own : List (Addr × Obj)) (vs : List Value) (a : Addr) (x y : Int) (tx ty : Tok) (n : Nat) (ps : List (Int × Int)), (∀ p ∈ own, p.1 ≠ fnd) → (∀ p ∈ tl, p.1 ≠ fnd) → (a, tupOf [.int x tx, .int y ty] n) ∈ tl →
      DatAll tl (vs ++ [.ref a]) (pairsD ps) → vs.length ≤ 10 →
      Fr h₀ env.locals h (fun y => if y = Str.ofString "code" then some (.int k t) else m₀ y) → News h₀ env.locals h ((fnd, listOf (vs ++ [Value.ref a]).toArray c) :: (tl ++ (rest ++ own))) →
      wpAny (model prog w) A (execs body env) (TurnEnd fun s' => ∃ h' tk' b tb tb' nb c' vs'' z, s' = { s with heap := h', toks := tk' } ∧ Fr h₀ env.locals h' (fun y => if y = Str.ofString "code" then some (.int k t) else m₀ y) ∧
        News h₀ env.locals h' ((fnd, listOf (List.toArray vs'') c') :: (b, tupOf [.int z tb, .int k tb'] nb) :: (tl ++ (rest ++ own))) ∧ (∀ p ∈ own, p.1 ≠ b) ∧ (@Ne Nat b fnd) ∧
        ((y = k - 1 ∧ z = x ∧ vs'' = vs ++ [Value.ref b]) ∨ (¬ y = k - 1 ∧ z = k ∧ vs'' = (vs ++ [Value.ref a]) ++ [Value.ref b]))) E { s with heap := h, toks := tk })
    (done : ∀ (u : Option Value) (vs : List Value) (c : Nat) (tl : List (Addr × Obj)) (h : Heap) (tk : Nat), DatAll tl vs (pairsD (runsZ ns)) → vs.length ≤ 10 →
      Fr h₀ env.locals h (fun y => if y = Str.ofString "code" then u else m₀ y) → News h₀ env.locals h ((fnd, listOf vs.toArray c) :: (tl ++ rest)) → Q .next { s with heap := h, toks := tk }) :
    wpAny (model prog w) A (pyIter (.ref l)) (fun it s₂ => LoopAtV prog w A h₀ env (Str.ofString "code") body Q E it s₂) E s := by
  let J : Nat → (Str → Option Value) → List (Addr × Obj) → Prop := fun i m nx => ∃ vs c tl, FrJ (Str.ofString "code") m₀ m ∧ DatAll tl vs (pairsD (runsZ (ns.take i))) ∧ vs.length ≤ i ∧ (∀ p ∈ tl, p.1 ≠ fnd) ∧ nx = (fnd, listOf vs.toArray c) :: (tl ++ rest)
  have hlenS : vsS.length = ns.length := hi.length
  refine kdl_iter (nn := cS) J hh (List.mem_cons_of_mem _ hS) F N ⟨[], 0, [], fun _ _ => rfl, .nil, Nat.le_refl _, (fun _ h => nomatch h), rfl⟩ ?_ ?_
  · rintro i v m₁ nx h tk own hv hoff hSn ⟨vs, c, tl, h1, h2, h3, h4, rfl⟩ F₁ N₁
    have hi' : i < ns.length := by rw [← hlenS]; exact (List.getElem?_eq_some_iff.mp hv).1
    obtain ⟨t, hx⟩ := hi.get i (ns[i]'hi') (List.getElem?_eq_getElem hi')
    have ev : v = .int (ns[i]'hi') t := by rw [hx] at hv; exact (Option.some.inj hv).symm
    subst ev
    have hs : ns.take (i + 1) = ns.take i ++ [ns[i]'hi'] := by rw [List.take_add_one, List.getElem?_eq_getElem hi'] <;> rfl
    generalize hk : ns[i]'hi' = k at hs F₁ hx hv
    have F₂ := h1.fr F₁
    have hown : ∀ p ∈ own, p.1 ≠ fnd := fun p hp => hoff p hp _ (by simp)
    have hst : runsZ (ns.take (i + 1)) = runStep (runsZ (ns.take i)) k := by rw [hs, runsZ_snoc]
    have N₂ : News h₀ env.locals h ((fnd, listOf vs.toArray c) :: (tl ++ (rest ++ own))) := by simpa using N₁
    -- what every turn's end comes to
    have fin : ∀ (h' : Heap) (tk' : Nat) (b : Addr) (ob : Obj) (vs'' : List Value) (c' : Nat), Fr h₀ env.locals h' (fun y => if y = Str.ofString "code" then some (.int k t) else m₀ y) →
        News h₀ env.locals h' ((fnd, listOf vs''.toArray c') :: (b, ob) :: (tl ++ (rest ++ own))) → (∀ p ∈ own, p.1 ≠ b) → (@Ne Nat b fnd) → DatAll ((b, ob) :: tl) vs'' (pairsD (runsZ (ns.take (i + 1)))) → vs''.length ≤ i + 1 →
        InvEndG h₀ env.locals (fun m' nx => (l, listOf vsS.toArray cS) ∈ nx ∧ J (i + 1) m' nx) own { s with heap := h, toks := tk } { s with heap := h', toks := tk' } := by
      intro h' tk' b ob vs'' c' F' N' ho hb hD hl'
      refine InvEndG.intro (s₁ := { s with heap := h, toks := tk }) (nx := (fnd, listOf vs''.toArray c') :: (((b, ob) :: tl) ++ rest)) F' N' ⟨?_, vs'', c', (b, ob) :: tl, ?_, hD, hl', ?_, rfl⟩ ?_ ?_ ?_
      · exact List.mem_cons_of_mem _ (List.mem_append.mpr (.inr hS))
      · intro z hz; simp [hz]
      · intro p hp
        rcases List.mem_cons.mp hp with rfl | hp
        · exact hb
        · exact h4 p hp
      · intro p hp b' hb'
        simp only [List.map_cons, List.map_append, List.mem_cons, List.mem_append, List.cons_append] at hb'
        rcases hb' with rfl | rfl | hb' | hb'
        · exact hown p hp
        · exact ho p hp
        · exact hoff p hp b' (by simp only [List.map_cons, List.map_append, List.mem_cons, List.mem_append]; exact .inr (.inl hb'))
        · exact hoff p hp b' (by simp only [List.map_cons, List.map_append, List.mem_cons, List.mem_append]; exact .inr (.inr hb'))
      · intro p hp
        simp only [List.cons_append, List.mem_cons, List.mem_append] at hp ⊢
        rcases hp with h | h | h | h
        · exact .inl h
        · exact .inr (.inl h)
        · exact .inr (.inr (.inl h))
        · exact .inr (.inr (.inr (.inl h)))
      · intro p hp
        simp only [List.mem_cons, List.mem_append]
        exact .inr (.inr (.inr (.inr hp)))
    rcases List.eq_nil_or_concat vs with rfl | ⟨vs', v', rfl⟩
    · have he : runsZ (ns.take i) = [] := by
        have := h2.length
        unfold pairsD at this
        simpa using this.symm
      refine wpAny_mono (turn0 k t c h tk tl own hown h4 F₂ N₂) (fun f s₂ p => ?_) fun _ _ e => e
      obtain ⟨rfl, h', tk', a, ta, tb, n, c', rfl, F', N', ho, hb⟩ := p
      refine fin h' tk' a _ [.ref a] c' F' N' ho hb ?_ (by simp)
      rw [hst, he, runStep_nil]
      exact .cons (DatIn.pair (.head _)) .nil
    · rw [List.concat_eq_append] at h2 h3 N₂
      obtain ⟨es, d, e1, e2, e3⟩ := h2.snoc
      obtain ⟨ps, p, hps⟩ : ∃ ps p, runsZ (ns.take i) = ps ++ [p] := by
        rcases List.eq_nil_or_concat (runsZ (ns.take i)) with h0 | ⟨ps, p, h0⟩
        · rw [h0] at e1; simp [pairsD] at e1
        · exact ⟨ps, p, by rw [h0, List.concat_eq_append]⟩
      obtain ⟨x, y⟩ := p
      rw [hps] at e1
      have e4 : es = pairsD ps ∧ d = pairD (x, y) := by
        have : pairsD ps ++ [pairD (x, y)] = es ++ [d] := by rw [← e1]; simp [pairsD]
        have := List.append_inj' this rfl
        exact ⟨this.1.symm, by simpa using this.2.symm⟩
      rw [e4.1] at e2
      rw [e4.2] at e3
      obtain ⟨a, tx, ty, n, rfl, hat⟩ := DatAll.pair_inv e3
      have hl9 : vs'.length ≤ 10 := by
        simp only [List.length_append, List.length_singleton] at h3
        omega
      refine wpAny_mono (turn1 k t c h tk tl own vs' a x y tx ty n (runsZ (ns.take i)) hown h4 hat h2 hl9 F₂ N₂) (fun f s₂ p => ?_) fun _ _ e => e
      obtain ⟨rfl, h', tk', b, tb, tb', nb, c', vs'', z, rfl, F', N', ho, hb, hz⟩ := p
      have hsub : ∀ p ∈ tl, p ∈ ((b, tupOf [.int z tb, .int k tb'] nb) :: tl) := fun p hp => .tail _ hp
      rcases hz with ⟨g1, rfl, rfl⟩ | ⟨g1, rfl, rfl⟩
      · refine fin h' tk' b _ _ c' F' N' ho hb ?_ (by simp only [List.length_append, List.length_singleton] at h3 ⊢; omega)
        rw [hst, hps, runStep_snoc, if_pos g1]
        unfold pairsD
        rw [List.map_append]
        exact DatAll.append (e2.mono hsub) (.cons (DatIn.pair (.head _)) .nil)
      · refine fin h' tk' b _ _ c' F' N' ho hb ?_ (by simp only [List.length_append, List.length_singleton] at h3 ⊢; omega)
        rw [hst, hps, runStep_snoc, if_neg g1]
        unfold pairsD
        rw [List.map_append, ← hps]
        exact DatAll.append (h2.mono hsub) (.cons (DatIn.pair (.head _)) .nil)
  · rintro m₁ nx h tk ⟨vs, c, tl, h1, h2, h3, h4, rfl⟩ F₁ N₁
    rw [hlenS, List.take_length] at h2
    exact done _ vs c tl h tk h2 (by rw [hlenS] at h3; omega) (h1.out F₁) N₁
end
end Mine
namespace Mine
open PySem PySem.W PySem.Calls PyProof.Rows PyProof.V PySem.Spec
/-- over the ledger `news`, sorted(v) makes a list of the ints `ns` -/
def SortsTo (prog : Program) (w : World) (v : Value) (news : List (Addr × Obj)) (ns : List Int) : Prop :=
  ∀ (A : Around) (E : Value → Shared → Prop) (s : Shared) (h₀ : Heap) (L : Addr) (m : Str → Option Value) (nw : List (Addr × Obj)) (Q : Value → Shared → Prop), A.handled = none → Fr h₀ L s.heap m → News h₀ L s.heap nw → (∀ p ∈ news, p ∈ nw) →
    (∀ D vs c h' tk, Fr h₀ L h' m → News h₀ L h' ((D, listOf vs.toArray c) :: nw) → (∀ q ∈ nw, q.1 < D) → IntsAre vs ns → Q (.ref D) { s with heap := h', toks := tk }) →
    wpAny (model prog w) A (call (.builtin "sorted") [v]) Q E s
theorem SortsTo.use {prog : Program} {w : World} {v : Value} {news : List (Addr × Obj)} {ns : List Int} (S : SortsTo prog w v news ns) {A : Around} {E : Value → Shared → Prop} {s : Shared} {h₀ : Heap} {L : Addr} {m : Str → Option Value} {nw : List (Addr × Obj)} {Q : Value → Shared → Prop}
    (hh : A.handled = none) (F : Fr h₀ L s.heap m) (N : News h₀ L s.heap nw) (hs : ∀ p ∈ news, p ∈ nw)
    (h : ∀ D vs c h' tk, Fr h₀ L h' m → News h₀ L h' ((D, listOf vs.toArray c) :: nw) → (∀ q ∈ nw, q.1 < D) → IntsAre vs ns → Q (.ref D) { s with heap := h', toks := tk }) :
    wpAny (model prog w) A (call (.builtin "sorted") [v]) Q E s := S A E s h₀ L m nw Q hh F N hs h
theorem sorts_list {prog : Program} {w : World} {l : Addr} {c : Nat} {vs : List Value} {xs ns : List Int} {news : List (Addr × Obj)} (hm : (l, listOf vs.toArray c) ∈ news) (hi : IntsAre vs xs) (hlen : xs.length ≤ 10) (hp : ns.Perm xs) (hs : ns.Pairwise (· ≤ ·)) :
    SortsTo prog w (.ref l) news ns := by
  intro A E s h₀ L m nw Q hh F N hsub h
  refine kso_sorted F N (News.isList N (hsub _ hm)) hi (by omega) fun D vs' ns' c h' F' N' l1 i' _ p' o' _ => ?_
  have e : ns' = ns := List.Perm.eq_of_pairwise (fun a b _ _ h1 h2 => Int.le_antisymm h1 h2) o' hs (p'.trans hp.symm)
  subst e
  exact h D vs' c h' s.toks F' N' l1 i'
end Mine
namespace Mine
open PySem PySem.W PySem.Calls PyProof.Rows PyProof.V PySem.Spec
theorem ne_of_ltAll {d : Addr} {l : List (Addr × Obj)} (h : ∀ p ∈ l, p.1 < d) : ∀ q ∈ l, q.1 ≠ d := fun q hq => Nat.ne_of_lt (h q hq)
theorem news_swap {h₀ h : Heap} {L : Addr} {a b : Addr × Obj} {r : List (Addr × Obj)} (N : News h₀ L h (a :: b :: r)) : News h₀ L h (b :: a :: r) := fun p hp => N p (by
  simp only [List.mem_cons] at hp ⊢
  rcases hp with h | h | h
  · exact .inr (.inl h)
  · exact .inl h
  · exact .inr (.inr h))
end Mine
namespace Mine
open PySem PySem.W PySem.Calls PyProof.Rows PyProof.V PySem.Spec
section
variable {prog : Program} {w : World} {A : Around} {E : Value → Shared → Prop} {s : Shared} {h₀ : Heap} {L l : Addr} {news : List (Addr × Obj)} {v0 v1 : Value} {n : Nat} {u : Tok}
theorem item_tup0 {value slice : PySem.Expr} {Q : Value → Shared → Prop} (N : News h₀ L s.heap news) (hm : (l, tupOf [v0, v1] n) ∈ news) (h : Q v0 s)
    (hs : subscripted slice false (.ref l) (.int 0 u) = operate [.ref l, .int 0 u] (getItem (.ref l) (.int 0 u)) := by with_unfolding_all rfl) :
    wpAny (model prog w) A (subscriptTail value slice (.ref l) (.int 0 u)) Q E s := item_tupleT (News.isTup N hm) (by decide) (by decide) (j := 0) rfl rfl h hs
theorem item_tup1 {value slice : PySem.Expr} {Q : Value → Shared → Prop} (N : News h₀ L s.heap news) (hm : (l, tupOf [v0, v1] n) ∈ news) (h : Q v1 s)
    (hs : subscripted slice false (.ref l) (.int 1 u) = operate [.ref l, .int 1 u] (getItem (.ref l) (.int 1 u)) := by with_unfolding_all rfl) :
    wpAny (model prog w) A (subscriptTail value slice (.ref l) (.int 1 u)) Q E s := item_tupleT (News.isTup N hm) (by decide) (by decide) (j := 1) rfl rfl h hs
end
end Mine
namespace Mine
theorem mem_tl {α : Type} {x a : α} {l : List α} (h : x ∈ l) : x ∈ a :: l := .tail _ h
theorem mem_l {α : Type} {x : α} {a b : List α} (h : x ∈ a) : x ∈ a ++ b := List.mem_append.mpr (.inl h)
theorem mem_r {α : Type} {x : α} {a b : List α} (h : x ∈ b) : x ∈ a ++ b := List.mem_append.mpr (.inr h)
end Mine
namespace Mine
open PySem PySem.W PySem.Calls PyProof.Rows PyProof.V PySem.Spec
theorem news_13 {h₀ h : Heap} {L : Addr} {a b : Addr × Obj} {f : Addr} {o o' : Obj} {r : List (Addr × Obj)} (N : News h₀ L h (a :: b :: (f, o) :: r)) (e : o = o') : News h₀ L h ((f, o') :: a :: r) := fun p hp => N p (by
  subst e
  simp only [List.mem_cons] at hp ⊢
  rcases hp with h | h | h
  · exact .inr (.inr (.inl h))
  · exact .inl h
  · exact .inr (.inr (.inr h)))
theorem news_drop {h₀ h : Heap} {L : Addr} {a b : Addr × Obj} {tl r : List (Addr × Obj)} (N : News h₀ L h (a :: (tl ++ b :: r))) : News h₀ L h (a :: (tl ++ r)) := fun p hp => N p (by
  simp only [List.mem_cons, List.mem_append] at hp ⊢
  rcases hp with h | h | h
  · exact .inl h
  · exact .inr (.inl h)
  · exact .inr (.inr (.inr h)))
theorem own_ne {P P' : Prop} {d : Addr} {tl r own : List (Addr × Obj)} (h : P ∧ P' ∧ AllLt d (tl ++ (r ++ own))) : ∀ p ∈ own, p.1 ≠ d := fun p hp => ne_of_allLt h.2.2 p (mem_r (mem_r hp))
end Mine
namespace Mine
theorem push_eq (l : List PySem.Value) (x : PySem.Value) (c : Nat) : PySem.W.listOf (l.toArray.push x) c = PySem.W.listOf (List.toArray (l ++ [x])) c := by rw [List.push_toArray]
end Mine
namespace Mine
open PySem PySem.W
theorem ne_of_ltAll2 {d d' : Addr} {l : List (Addr × Obj)} (h : ∀ p ∈ l, p.1 < d) (hd : @LE.le Nat _ d d') : ∀ q ∈ l, q.1 ≠ d' := fun q hq => Nat.ne_of_lt (Nat.lt_of_lt_of_le (h q hq) hd)
end Mine

namespace Mine
open PySem PySem.W PySem.Calls PyProof.Rows PyProof.V PySem.Spec

/-- a test of a comprehension comes to `b` and leaves the heap as it was -/
def TestEnd (b : Bool) (s₁ : Shared) (ok : Bool) (s₂ : Shared) : Prop := ok = b ∧ ∃ tk, s₂ = { s₁ with toks := tk }
/-- an element of a comprehension -/
def EltEnd (P : Value → Shared → Prop) (y : Value) (s : Shared) : Prop := P y s

section
variable {prog : Program} {w : World} {A : Around} {E : Value → Shared → Prop} {s : Shared} {h₀ : Heap} {L : Addr} {m : Str → Option Value} {env : Env} {x : Str} {scope : Scope} {cl : List (Str × Addr)} {news : List (Addr × Obj)}

theorem filter_rest {ct : PySem.Expr} {pe : Pos} {S : List (Addr × Obj) → Prop} {Fin : List Value → List (Addr × Obj) → Prop} {vs : List Value} {ns : List Int} (pz : Int → Bool) (hi : IntsAre vs ns) (hS : S news)
    (hk : (compEnvC scope cl 0 env).scope.kind = .function) (hl : (compEnvC scope cl 0 env).kindOf x = some .local) (hd : (x == ("__debug__" : Str)) = false)
    (test : ∀ k t I oI C oC D m₂ ys h tk (E' : Value → Shared → Prop), k ∈ ns → LCg.NsObj oC m₂ → m₂ x = some (.int k t) → Fr h₀ L h m → News h₀ L h ((I, oI) :: (C, oC) :: (D, LCg.lst ys) :: news) →
      wpAny (model prog w) A (isTrue ct (compEnvC scope cl C env) (eval ct (compEnvC scope cl C env))) (TestEnd (pz k) { s with heap := h, toks := tk }) E' { s with heap := h, toks := tk })
    (fin : ∀ ys, IntsAre ys (ns.filter pz) → Fin ys news) :
    LCt.CompRestT prog w A h₀ L m env ct (.Name x pe) x scope cl s S (fun i v => vs.toArray[i]? = some v) Fin vs.toArray.size 0 [] news := by
  have hz : vs.toArray.size = ns.length := size_ints hi
  have key : ∀ (j i : Nat) (ys : List Value), i + j = ns.length → IntsAre ys ((ns.take i).filter pz) → LCt.CompRestT prog w A h₀ L m env ct (.Name x pe) x scope cl s S (fun i v => vs.toArray[i]? = some v) Fin j i ys news := by
    intro j
    induction j with
    | zero =>
      intro i ys hij hy
      have e : i = ns.length := by omega
      subst e
      rw [List.take_length] at hy
      exact LCt.CompRestT.zero (fin ys hy)
    | succ j ih =>
      intro i ys hij hy
      refine LCt.CompRestT.succ ?_
      intro v I oI C oC D m₂ h tk E' hv hC hx F N off ne
      have hi' : i < ns.length := by omega
      obtain ⟨t, hx'⟩ := hi.get i (ns[i]'hi') (List.getElem?_eq_getElem hi')
      have ev : v = .int (ns[i]'hi') t := by
        have hv' : vs[i]? = some v := by simpa using hv
        rw [hx'] at hv'; exact (Option.some.inj hv').symm
      subst ev
      have hs : ns.take (i + 1) = ns.take i ++ [ns[i]'hi'] := by rw [List.take_add_one, List.getElem?_eq_getElem hi'] <;> rfl
      refine wpAny_mono (test _ t I oI C oC D m₂ ys h tk E' (List.getElem_mem hi') hC hx F N) (fun ok s₂ q => ?_) fun _ _ e => e
      obtain ⟨rfl, tk', rfl⟩ := q
      cases hp : pz (ns[i]'hi') with
      | true =>
        rw [if_pos rfl]
        refine LCgL.ld_own (s := { s with heap := h, toks := tk' }) N (.tail _ (.head _)) hC hx ?_ hk hl hd
        refine ⟨h, tk', news, rfl, F, N, off, hS, ?_⟩
        refine ih (i + 1) _ (by omega) ?_
        rw [hs, List.filter_append, List.filter_cons_of_pos hp, List.filter_nil]
        exact IntsAre.append hy (.cons _ t .nil)
      | false =>
        rw [if_neg (by simp)]
        refine ⟨h, tk', news, rfl, F, N, off, hS, ?_⟩
        refine ih (i + 1) _ (by omega) ?_
        rw [hs, List.filter_append, List.filter_cons_of_neg (by simp [hp]), List.filter_nil, List.append_nil]
        exact hy
  rw [hz]
  exact key ns.length 0 [] (by omega) (by simpa using IntsAre.nil)

theorem comp_filter {ct : PySem.Expr} {pe : Pos} {Fin : Shared → List Value → List (Addr × Obj) → Prop} {ax : Addr} {c : Nat} {vs : List Value} {ns : List Int} {s₁ : Shared} (pz : Int → Bool)
    (hh : A.handled = none) (F : Fr h₀ L s₁.heap m) (N : News h₀ L s₁.heap news) (hm : (ax, listOf vs.toArray c) ∈ news) (hi : IntsAre vs ns) (hlen : ns.length ≤ 10)
    (hk : (compEnvC scope cl 0 env).scope.kind = .function) (hl : (compEnvC scope cl 0 env).kindOf x = some .local) (hd : (x == ("__debug__" : Str)) = false)
    (test : ∀ g k t I oI C oC D m₂ ys h tk (E' : Value → Shared → Prop), k ∈ ns → LCg.NsObj oC m₂ → m₂ x = some (.int k t) → Fr h₀ L h m → News h₀ L h ((I, oI) :: (C, oC) :: (D, LCg.lst ys) :: news) →
      wpAny (model prog w) A (isTrue ct (compEnvC scope cl C env) (eval ct (compEnvC scope cl C env))) (TestEnd (pz k) { ({ s₁ with heap := g } : Shared) with heap := h, toks := tk }) E' { ({ s₁ with heap := g } : Shared) with heap := h, toks := tk })
    (fin : ∀ g ys, IntsAre ys (ns.filter pz) → Fin { s₁ with heap := g } ys news) :
    LCt.CompSrcT prog w A h₀ L m env ct (.Name x pe) x scope cl Fin (.ref ax) s₁ := by
  refine LCt.CompSrcT.ledger hh F N hm (by rw [size_ints hi, sizeLine_eq]; omega) fun g => ?_
  exact filter_rest pz hi (.inr ⟨_, hm, rfl, _, rfl⟩) hk hl hd (fun k t I oI C oC D m₂ ys h tk E' => test g k t I oI C oC D m₂ ys h tk E') fun ys hy => fin g ys hy

theorem pairs_rest {elt : PySem.Expr} {Fin : List Value → List (Addr × Obj) → Prop} {ps : List (Int × Int)}
    (turn : ∀ (i : Nat) (p : Int × Int) t I oI C oC D m₂ ys h tk tl (E' : Value → Shared → Prop), ps[i]? = some p → LCg.NsObj oC m₂ → m₂ x = some (.int (i : Int) t) → Fr h₀ L h m → News h₀ L h ((I, oI) :: (C, oC) :: (D, LCg.lst ys) :: (tl ++ news)) →
      wpAny (model prog w) A (eval elt (compEnvC scope cl C env)) (EltEnd fun y s' => ∃ h' tk' b ta tb nb, s' = { s with heap := h', toks := tk' } ∧ y = .ref b ∧ Fr h₀ L h' m ∧
        News h₀ L h' ((b, tupOf [.int p.1 ta, .int p.2 tb] nb) :: (I, oI) :: (C, oC) :: (D, LCg.lst ys) :: (tl ++ news)) ∧ (@Ne Nat b I) ∧ (@Ne Nat b C) ∧ (@Ne Nat b D)) E' { s with heap := h, toks := tk })
    (fin : ∀ ys tl, DatAll tl ys (pairsD ps) → Fin ys (tl ++ news)) :
    LCg.CompRest prog w A h₀ L m env elt x scope cl s (fun _ => True) (fun i v => ∃ t, v = .int (0 + (i : Int)) t) Fin ps.length 0 [] news := by
  have key : ∀ (j i : Nat) (ys : List Value) (tl : List (Addr × Obj)), i + j = ps.length → DatAll tl ys (pairsD (ps.take i)) →
      LCg.CompRest prog w A h₀ L m env elt x scope cl s (fun _ => True) (fun i v => ∃ t, v = .int (0 + (i : Int)) t) Fin j i ys (tl ++ news) := by
    intro j
    induction j with
    | zero =>
      intro i ys tl hij hy
      have e : i = ps.length := by omega
      subst e
      rw [List.take_length] at hy
      exact LCg.CompRest.zero (fin ys tl hy)
    | succ j ih =>
      intro i ys tl hij hy
      refine LCg.CompRest.succ ?_
      intro v I oI C oC D m₂ h tk E' hv hC hx F N off ne
      have hi' : i < ps.length := by omega
      have hp : ps[i]? = some (ps[i]'hi') := List.getElem?_eq_getElem hi'
      obtain ⟨t, rfl⟩ := hv
      have e0 : (0 : Int) + (i : Int) = (i : Int) := Int.zero_add _
      rw [e0] at hx
      have hs : ps.take (i + 1) = ps.take i ++ [ps[i]'hi'] := by rw [List.take_add_one, hp] <;> rfl
      refine wpAny_mono (turn i _ t I oI C oC D m₂ ys h tk tl E' hp hC hx F N) (fun y s₂ q => ?_) fun _ _ e => e
      obtain ⟨h', tk', b, ta, tb, nb, rfl, rfl, F', N', b1, b2, b3⟩ := q
      refine ⟨h', tk', ((b, tupOf [.int (ps[i]'hi').1 ta, .int (ps[i]'hi').2 tb] nb) :: tl) ++ news, rfl, F', fun p hp => N' p ?_, ⟨⟨b1, b2, b3⟩, off⟩, trivial, ?_⟩
      · simp only [List.cons_append, List.mem_cons, List.mem_append] at hp ⊢
        rcases hp with h | h | h | h | h | h
        · exact .inr (.inl h)
        · exact .inr (.inr (.inl h))
        · exact .inr (.inr (.inr (.inl h)))
        · exact .inl h
        · exact .inr (.inr (.inr (.inr (.inl h))))
        · exact .inr (.inr (.inr (.inr (.inr h))))
      · refine ih (i + 1) _ _ (by omega) ?_
        rw [hs]
        unfold pairsD
        rw [List.map_append]
        exact DatAll.append (hy.mono fun p hp => .tail _ hp) (.cons (DatIn.pair (.head _)) .nil)
  exact key ps.length 0 [] [] (by omega) .nil

theorem comp_pairs {elt : PySem.Expr} {Fin : Shared → List Value → List (Addr × Obj) → Prop} {r : Addr} {b : Int} {t₀ u₀ v₀ : Tok} {s₁ : Shared} {ps : List (Int × Int)} (hh : A.handled = none) (F : Fr h₀ L s₁.heap m) (N : News h₀ L s₁.heap news)
    (hr : IsRange s₁.heap r 0 b 1 t₀ u₀ v₀) (hb : b = (ps.length : Int)) (hlen : ps.length ≤ 10)
    (turn : ∀ g (i : Nat) (p : Int × Int) t I oI C oC D m₂ ys h tk tl (E' : Value → Shared → Prop), ps[i]? = some p → LCg.NsObj oC m₂ → m₂ x = some (.int (i : Int) t) → Fr h₀ L h m → News h₀ L h ((I, oI) :: (C, oC) :: (D, LCg.lst ys) :: (tl ++ news)) →
      wpAny (model prog w) A (eval elt (compEnvC scope cl C env)) (EltEnd fun y s' => ∃ h' tk' b ta tb nb, s' = { ({ s₁ with heap := g } : Shared) with heap := h', toks := tk' } ∧ y = .ref b ∧ Fr h₀ L h' m ∧
        News h₀ L h' ((b, tupOf [.int p.1 ta, .int p.2 tb] nb) :: (I, oI) :: (C, oC) :: (D, LCg.lst ys) :: (tl ++ news)) ∧ (@Ne Nat b I) ∧ (@Ne Nat b C) ∧ (@Ne Nat b D)) E' { ({ s₁ with heap := g } : Shared) with heap := h, toks := tk })
    (fin : ∀ g ys tl, DatAll tl ys (pairsD ps) → Fin { s₁ with heap := g } ys (tl ++ news)) :
    LCg.CompSrc prog w A h₀ L m env elt x scope cl Fin (.ref r) s₁ := by
  subst hb
  refine LCg.CompSrc.range (n := ps.length) hh F N hr (small_one (by decide) (by decide) (by omega) (by omega)) (by rw [rangeSize_nat]; congr 1) (by rw [sizeLine_eq]; omega) fun g => ?_
  exact pairs_rest (fun i p t I oI C oC D m₂ ys h tk tl E' => turn g i p t I oI C oC D m₂ ys h tk tl E') fun ys tl hy => fin g ys tl hy
end

theorem ints_dat {vs : List Value} {ns : List Int} (h : IntsAre vs ns) : DatAll [] vs (ns.map Dat.int) := by
  induction h with
  | nil => exact .nil
  | cons n t _ ih => exact .cons (.int n t) ih
theorem notIn_ints {prog : Program} {w : World} {A : Around} {E : Value → Shared → Prop} {s : Shared} {h₀ : Heap} {L a : Addr} {news : List (Addr × Obj)} {vs : List Value} {ns : List Int} {c : Nat} {x : Int} {t : Tok} {Q : Value → Shared → Prop}
    (N : News h₀ L s.heap news) (ma : (a, listOf vs.toArray c) ∈ news) (hi : IntsAre vs ns) (hu : A.units + 64 < cLine) (h : Q (.bool (decide (x ∉ ns))) s) : wpAny (model prog w) A (compareOp .NotIn (.int x t) (.ref a)) Q E s := by
  refine kqd_notIn N ma rfl rfl (ints_dat hi) (fun _ h => nomatch h) (DatIn.int (news := []) x t) (fun _ h => nomatch h) (fun d hd => ?_) rfl hu ?_
  · obtain ⟨k, _, rfl⟩ := List.mem_map.mp hd; rfl
  · have e : (Dat.int x ∈ ns.map Dat.int) ↔ x ∈ ns := by
      rw [List.mem_map]
      constructor
      · rintro ⟨k, hk, he⟩
        cases he
        exact hk
      · intro h; exact ⟨x, h, rfl⟩
    by_cases hx : x ∈ ns
    · have h1 : Dat.int x ∈ ns.map Dat.int := e.mpr hx
      simp only [h1, decide_true, Bool.not_true]
      simpa [hx] using h
    · have h1 : ¬ Dat.int x ∈ ns.map Dat.int := fun q => hx (e.mp q)
      simp only [h1, decide_false, Bool.not_false]
      simpa [hx] using h
end Mine

namespace Mine
open PySem PySem.W PySem.Calls PyProof.Rows PyProof.V PySem.Spec

section
variable {prog : Program} {w : World} {A : Around} {E : Value → Shared → Prop} {s : Shared} {h₀ : Heap} {L B : Addr} {m : Str → Option Value} {nw : List (Addr × Obj)}
theorem sort_ints {vs : List Value} {ns : List Int} {c : Nat} {Q : Value → Shared → Prop} (F : Fr h₀ L s.heap m) (N : News h₀ L s.heap ((B, listOf vs.toArray c) :: nw)) (hb : ∀ q ∈ nw, q.1 < B) (hi : IntsAre vs ns) (h64 : ns.length < 64)
    (h : ∀ out ns' e h', IntsAre out ns' → ns'.Perm ns → ns'.Pairwise (· ≤ ·) → Fr h₀ L h' m → News h₀ L h' ((B, listOf (List.toArray out) e) :: nw) → Q .none { s with heap := h' }) :
    wpAny (model prog w) A (call (.builtin "list.sort") [.ref B]) Q E s := by
  have z := N _ (.head _)
  have ho : s.heap.get? B = some (seqObj "list" vs.toArray c) := z.1
  refine wpAny_call_entry PyProof.Rows.slot_list_sort ⟨_, z.1, rfl⟩ PyProof.Rows.entry_list_sort (list_sort_tree (n := c) (vs := vs) ho hi (by rw [hi.length]; exact h64) fun out ns' hI hp hP => ⟨.none, rfl, ?_⟩) (PyProof.Rows.args_list_sort _)
  have a : ∀ p ∈ ([] : List (Addr × Obj)), p.1 ≠ B := fun _ h => nomatch h
  have b : ∀ p ∈ nw, p.1 ≠ B := ne_of_ltAll hb
  have F1 : Fr h₀ L (s.heap.update B (Obj.mapSeq fun _ => (#[] : Array Value))) m := F.change (Heap.SameBut.update ..) z.2.1 z.2.2
  have N1 := ki_turn (pre := []) (fun _ => (#[] : Array Value)) (its' := #[]) N a b rfl rfl
  have N2 := News.grown N1 fun _ _ e => Heap.get?_push_of_some (seqObj "tuple" vs.toArray 0) e
  have N3 := News.grown N2 fun _ _ e => Heap.get?_push_of_some (seqObj "list" #[] 0) e
  have N4 := ki_turn (pre := []) (fun _ => out) (its' := out) N3 a b rfl rfl
  have F4 : Fr h₀ L ((((s.heap.update B (Obj.mapSeq fun _ => (#[] : Array Value))).push (seqObj "tuple" vs.toArray 0)).push (seqObj "list" #[] 0)).update B (Obj.mapSeq fun _ => out)) m :=
    ((F1.push (seqObj "tuple" vs.toArray 0)).push (seqObj "list" #[] 0)).change (Heap.SameBut.update ..) z.2.1 z.2.2
  have key : ∀ e h', News h₀ L h' ((B, listOf out e) :: nw) → News h₀ L h' ((B, listOf out.toList.toArray e) :: nw) := fun e h' N => by rw [Array.toArray_toList]; exact N
  exact h out.toList ns' _ _ hI hp hP F4 (key _ _ N4)
end

theorem keys_intro {ks : List Int} : ∀ {C : List Value → Prop}, (∀ vs, IntsAre vs ks → C vs) → KdlKeysD (kdfD (ks.map fun k => (k, (7 : Int)))) C := by
  induction ks with
  | nil => intro C h; exact h [] .nil
  | cons k ks ih =>
    intro C h
    show ∀ v, Flat v (PyData.int k) → KdlKeysD (kdfD (ks.map fun k => (k, (7 : Int)))) fun vs => C (v :: vs)
    intro v hv
    obtain ⟨t, rfl⟩ := Flat.int_inv hv
    exact ih fun vs hvs => h _ (.cons k t hvs)

theorem sorts_dict {prog : Program} {w : World} {d : Addr} {o : Obj} {kvs : List (Int × Value)} {xs ns : List Int} {news : List (Addr × Obj)} (hm : (d, o) ∈ news) (lo : (d == sysModules) = false) (hd : o.IsDictOf (PySem.intKind prog w) kvs)
    (hf : FlatPairs PyData.int kvs (kdfD (xs.map fun k => (k, (7 : Int))))) (hlen : xs.length ≤ 10) (hp : ns.Perm xs) (hs : ns.Pairwise (· ≤ ·)) : SortsTo prog w (.ref d) news ns := by
  intro A E s h₀ L m nw Q hh F N hsub h
  refine kdu_sortedD (knd := PySem.intKind prog w) (enc := PyData.int) (fun _ _ => kdl_flat_int) hh F N (TabAt.ofNews N (hsub _ hm) lo hd hf) (by rw [kdfD_length, List.length_map]; omega) fun B h' tk => ?_
  refine keys_intro fun vs hvs F' N' l1 => ?_
  refine sort_ints (s := { s with heap := h', toks := tk }) F' N' l1 hvs (by omega) fun out ns' e h'' hI hp' hP F'' N'' => ?_
  have e1 : ns' = ns := List.Perm.eq_of_pairwise (fun a b _ _ h1 h2 => Int.le_antisymm h1 h2) hP hs (hp'.trans hp.symm)
  subst e1
  exact h B out e h'' tk F'' N'' l1 hI

theorem kdfPut_new {c : List (Int × Int)} {k v : Int} (h : k ∉ c.map (·.1)) : kdfPut c k v = c ++ [(k, v)] := by
  unfold kdfPut
  have : (c.any fun p => decide (p.1 = k)) = false := by
    rw [List.any_eq_false]
    intro p hp he
    exact h (List.mem_map.mpr ⟨p, hp, by simpa using he⟩)
  rw [this]; rfl

section
variable {prog : Program} {w : World} {A : Around} {E : Value → Shared → Prop} {s : Shared} {env : Env} {h₀ : Heap} {body : List Stmt} {Q : Flow → Shared → Prop}
theorem keys_loop {l d : Addr} {vsS : List Value} {ns : List Int} {cS : Nat} {o₀ : Obj} {m₀ : Str → Option Value} {rest : List (Addr × Obj)}
    (hh : A.handled = none) (hS : (l, listOf vsS.toArray cS) ∈ rest) (hi : IntsAre vsS ns) (hnd : ns.Nodup) (hlen : ns.length ≤ 10) (F : Fr h₀ env.locals s.heap m₀) (N : News h₀ env.locals s.heap ((d, o₀) :: rest))
    (hd₀ : o₀.IsDictOf (PySem.intKind prog w) []) (hf₀ : FlatPairs PyData.int [] [])
    (turn : ∀ (k : Int) (t : Tok) (o : Obj) (kvs : List (Int × Value)) (c : List (Int × Int)) (h : Heap) (tk : Nat) (own : List (Addr × Obj)), o.IsDictOf (PySem.intKind prog w) kvs → FlatPairs PyData.int kvs (kdfD c) → c.length ≤ 10 → (∀ p ∈ own, p.1 ≠ d) →
      Fr h₀ env.locals h (fun y => if y = Str.ofString "code" then some (.int k t) else m₀ y) → News h₀ env.locals h ((d, o) :: (rest ++ own)) →
      wpAny (model prog w) A (execs body env) (TurnEnd fun s' => ∃ h' tk' o' kvs', s' = { s with heap := h', toks := tk' } ∧ Fr h₀ env.locals h' (fun y => if y = Str.ofString "code" then some (.int k t) else m₀ y) ∧
        News h₀ env.locals h' ((d, o') :: (rest ++ own)) ∧ o'.IsDictOf (PySem.intKind prog w) kvs' ∧ FlatPairs PyData.int kvs' (kdfD (kdfPut c k 7))) E { s with heap := h, toks := tk })
    (done : ∀ (u : Option Value) (o : Obj) (kvs : List (Int × Value)) (h : Heap) (tk : Nat), o.IsDictOf (PySem.intKind prog w) kvs → FlatPairs PyData.int kvs (kdfD (ns.map fun k => (k, (7 : Int)))) →
      Fr h₀ env.locals h (fun y => if y = Str.ofString "code" then u else m₀ y) → News h₀ env.locals h ((d, o) :: rest) → Q .next { s with heap := h, toks := tk }) :
    wpAny (model prog w) A (pyIter (.ref l)) (fun it s₂ => LoopAtV prog w A h₀ env (Str.ofString "code") body Q E it s₂) E s := by
  let J : Nat → (Str → Option Value) → List (Addr × Obj) → Prop := fun i m nx => ∃ o kvs, FrJ (Str.ofString "code") m₀ m ∧ o.IsDictOf (PySem.intKind prog w) kvs ∧ FlatPairs PyData.int kvs (kdfD ((ns.take i).map fun k => (k, (7 : Int)))) ∧ nx = (d, o) :: rest
  have hlenS : vsS.length = ns.length := hi.length
  refine kdl_iter (nn := cS) J hh (List.mem_cons_of_mem _ hS) F N ⟨o₀, [], fun _ _ => rfl, hd₀, by simpa [kdfD] using hf₀, rfl⟩ ?_ ?_
  · rintro i v m₁ nx h tk own hv hoff hSn ⟨o, kvs, h1, h2, h3, rfl⟩ F₁ N₁
    have hi' : i < ns.length := by rw [← hlenS]; exact (List.getElem?_eq_some_iff.mp hv).1
    obtain ⟨t, hx⟩ := hi.get i (ns[i]'hi') (List.getElem?_eq_getElem hi')
    have ev : v = .int (ns[i]'hi') t := by rw [hx] at hv; exact (Option.some.inj hv).symm
    subst ev
    have hs : ns.take (i + 1) = ns.take i ++ [ns[i]'hi'] := by rw [List.take_add_one, List.getElem?_eq_getElem hi'] <;> rfl
    have hnew : ns[i]'hi' ∉ ns.take i := by
      have h9 := hnd
      rw [← List.take_append_drop (i + 1) ns, hs, List.append_assoc, List.nodup_append] at h9
      intro hm
      exact h9.2.2 _ hm _ (List.mem_append.mpr (.inl (List.mem_singleton.mpr rfl))) rfl
    generalize hk : ns[i]'hi' = k at hs F₁ hx hv hnew
    have F₂ := h1.fr F₁
    refine wpAny_mono (turn k t o kvs _ h tk own h2 h3 (by rw [List.length_map, List.length_take]; omega) (fun p hp => hoff p hp _ (by simp)) F₂ (by simpa using N₁)) (fun f s₂ p => ?_) fun _ _ e => e
    obtain ⟨rfl, h', tk', o', kvs', rfl, F', N', hd', hf'⟩ := p
    refine InvEndG.intro (s₁ := { s with heap := h, toks := tk }) (nx := (d, o') :: rest) F' N' ⟨List.mem_cons_of_mem _ hS, o', kvs', ?_, hd', ?_, rfl⟩ (offR hoff rfl) ?_ ?_
    · intro z hz; simp [hz]
    · rw [hs, List.map_append]
      rw [kdfPut_new (by rw [List.map_map]; intro hm; obtain ⟨q, hq, he⟩ := List.mem_map.mp hm; exact hnew (by rw [← he]; exact hq))] at hf'
      exact hf'
    · intro p hp
      simp only [List.mem_cons, List.mem_append] at hp ⊢
      rcases hp with h | h
      · exact .inl h
      · exact .inr (.inl h)
    · intro p hp
      simp only [List.mem_cons, List.mem_append]
      exact .inr (.inr hp)
  · rintro m₁ nx h tk ⟨o, kvs, h1, h2, h3, rfl⟩ F₁ N₁
    rw [hlenS, List.take_length] at h3
    exact done _ o kvs h tk h2 h3 (h1.out F₁) N₁
end
end Mine
namespace Mine
open PySem PySem.W PySem.Calls PyProof.Rows PyProof.V PySem.Spec
theorem eq_pairs {prog : Program} {w : World} {A : Around} {E : Value → Shared → Prop} {s : Shared} {h₀ : Heap} {L a b : Addr} {news n₁ n₂ : List (Addr × Obj)} {xs ys : List Value} {ka kb : Nat} {ps : List (Int × Int)} {Q : Value → Shared → Prop}
    (N : News h₀ L s.heap news) (ma : (a, listOf xs.toArray ka) ∈ news) (mb : (b, listOf ys.toArray kb) ∈ news) (Da : DatAll n₁ xs (pairsD ps)) (Db : DatAll n₂ ys (pairsD ps)) (sa : ∀ p ∈ n₁, p ∈ news) (sb : ∀ p ∈ n₂, p ∈ news)
    (hu : A.units + 64 < cLine) (h : Q (.bool true) s) : wpAny (model prog w) A (compareOp .Eq (.ref a) (.ref b)) Q E s := by
  refine kqd_eq N ma rfl rfl Da sa mb rfl rfl Db sb (pairsD_ok ps) (pairsD_ok ps) hu ?_
  simp only [decide_true]
  exact h
end Mine

namespace Mine
open PySem PySem.W PySem.Calls PyProof.Rows PyProof.V PySem.Spec
section
variable {prog : Program} {w : World} {A : Around} {E : Value → Shared → Prop} {s : Shared} {env : Env} {h₀ : Heap} {body : List Stmt} {Q : Flow → Shared → Prop}
theorem law_loop {r src : Addr} {o : Obj} {t₀ u₀ v₀ : Tok} {m₀ : Str → Option Value} {rest : List (Addr × Obj)}
    (hh : A.handled = none) (hr : IsRange s.heap r 0 3 1 t₀ u₀ v₀) (F : Fr h₀ env.locals s.heap m₀) (N : News h₀ env.locals s.heap ((src, o) :: rest)) (ho : SrcOk o)
    (turn : ∀ (k : Int) (t : Tok) (o₁ : Obj) (h : Heap) (tk : Nat) (own : List (Addr × Obj)), SrcOk o₁ → (∀ p ∈ own, p.1 ≠ src) →
      Fr h₀ env.locals h (fun y => if y = Str.ofString "turn" then some (.int k t) else m₀ y) → News h₀ env.locals h ((src, o₁) :: (rest ++ own)) →
      wpAny (model prog w) A (execs body env) (TurnEnd fun s' => ∃ h' tk' o₂, s' = { s with heap := h', toks := tk' } ∧ SrcOk o₂ ∧
        Fr h₀ env.locals h' (fun y => if y = Str.ofString "turn" then some (.int k t) else m₀ y) ∧ News h₀ env.locals h' ((src, o₂) :: (rest ++ own))) E { s with heap := h, toks := tk })
    (done : ∀ (u : Option Value) (o₁ : Obj) (h : Heap) (tk : Nat), Fr h₀ env.locals h (fun y => if y = Str.ofString "turn" then u else m₀ y) → News h₀ env.locals h ((src, o₁) :: rest) → Q .next { s with heap := h, toks := tk }) :
    wpAny (model prog w) A (pyIter (.ref r)) (fun it s₂ => LoopAtV prog w A h₀ env (Str.ofString "turn") body Q E it s₂) E s := by
  let J : Nat → (Str → Option Value) → List (Addr × Obj) → Prop := fun _ m nx => ∃ o₁, SrcOk o₁ ∧ FrJ (Str.ofString "turn") m₀ m ∧ nx = (src, o₁) :: rest
  refine my_range (n := 3) J hh hr (by decide) (by decide) F N ⟨o, ho, fun _ _ => rfl, rfl⟩ ?_ ?_
  · rintro i t m₁ nx h tk own hi hoff ⟨o₁, h1, h2, rfl⟩ F₁ N₁
    refine wpAny_mono (turn _ t o₁ h tk own h1 (fun p hp => hoff p hp _ (by simp)) (h2.fr F₁) (by simpa using N₁)) (fun f s₂ p => ?_) fun _ _ e => e
    obtain ⟨rfl, h', tk', o₂, rfl, ho₂, F', N'⟩ := p
    refine InvEndG.intro (s₁ := { s with heap := h, toks := tk }) (nx := (src, o₂) :: rest) F' N' ⟨o₂, ho₂, ?_, rfl⟩ (offR hoff rfl) ?_ ?_
    · intro z hz; simp [hz]
    · intro p hp
      simp only [List.mem_cons, List.mem_append] at hp ⊢
      rcases hp with h | h
      · exact .inl h
      · exact .inr (.inl h)
    · intro p hp
      simp only [List.mem_cons, List.mem_append]
      exact .inr (.inr hp)
  · rintro m₁ nx h tk ⟨o₁, h1, h2, rfl⟩ F₁ N₁
    exact done _ o₁ h tk (h2.out F₁) N₁
end
theorem ne_of_ltL {d : Addr} {l : List (Addr × Obj)} (h : ∀ p ∈ l, p.1 < d) : ∀ q ∈ l, q.1 ≠ d := fun q hq => Nat.ne_of_lt (h q hq)
end Mine

namespace Mine
open PySem PySem.W PyProof.Rows
theorem mod_facts (x : Int) {m : Int} (h : 0 < m) : 0 ≤ x.fmod m ∧ x.fmod m < m := ⟨Int.fmod_nonneg_of_pos x h, Int.fmod_lt_of_pos x h⟩
theorem mul_ok {a x y : Int} : IntMulOk ([a, x.fmod 2147483647].getD (Int.toNat 1) 0) y :=
  IntMulOk.of_left (intBits_le (by
    show (x.fmod 2147483647).natAbs < 2 ^ 64
    have := mod_facts x (m := 2147483647) (by decide)
    omega))
theorem div_le {a m : Int} (ha : 0 ≤ a) (hm : 0 < m) : 0 ≤ a.fdiv m ∧ a.fdiv m ≤ a := by
  rw [Int.fdiv_eq_ediv_of_nonneg _ (Int.le_of_lt hm)]
  exact ⟨Int.ediv_nonneg ha (Int.le_of_lt hm), Int.ediv_le_self _ ha⟩
theorem src_ok {a x : Int} {ta tb : Tok} {n : Nat} (ha : 0 ≤ a) : SrcOk (listOf #[.int a ta, .int (x.fmod 2147483647) tb] n) :=
  ⟨a, x.fmod 2147483647, ta, tb, n, rfl, ha, (mod_facts x (by decide)).1, (mod_facts x (by decide)).2⟩
end Mine

namespace Mine
open PySem PySem.W PyProof.Rows
structure TakeSt (KF : Params → Frag) (p : Program) : Prop where
  out : ∀ {w : World} {mean : ExcName → Option Value} {mg mb : Str → Option Value} {src : Addr} {n : Nat} {a b top : Int} {ta tb tt : Tok} {rest : List (Addr × Obj)}
  (hr : ∀ p ∈ rest, p.1 ≠ src) (ha : 0 ≤ a) (hb : 0 ≤ b) (hb' : b < 2147483647) (h0 : 0 < top) (h16 : top ≤ 16),
    C KF p w mean mg mb 35 1 [.ref src, .int top tt] ((src, listOf #[.int a ta, .int b tb] n) :: rest)
   (fun v nx => ∃ r t a' b' ta' tb' n', v = .int r t ∧ nx = (src, listOf #[.int a' ta', .int b' tb'] n') :: rest ∧ 0 ≤ r ∧ r < top ∧ 0 ≤ a' ∧ a' ≤ a ∧ 0 ≤ b' ∧ b' < 2147483647)
structure OneSt (KF : Params → Frag) (p : Program) : Prop where
  out : ∀ {w : World} {mean : ExcName → Option Value} {mg mb : Str → Option Value} {src thg : Addr} {n2 : Nat} {vs : List Value} {ns : List Int} {news : List (Addr × Obj)} {u : Obj → List (Addr × Obj)} {o : Obj}
  (U : UpdF src o news u) (ho : SrcOk o) (hm : (thg, listOf vs.toArray n2) ∈ news) (hne : (thg, listOf vs.toArray n2).1 ≠ src) (hi : IntsAre vs ns) (h0 : 0 < (ns.length : Int)) (h16 : (ns.length : Int) ≤ 16),
    C KF p w mean mg mb 42 2 [.ref src, .ref thg] news (fun v nx => ∃ x t o', v = .int x t ∧ nx = u o' ∧ SrcOk o' ∧ x ∈ ns)
structure CodesSt (KF : Params → Frag) (p : Program) : Prop where
  out : ∀ {w : World} {mean : ExcName → Option Value} {mg mb : Str → Option Value} {src : Addr} {rest : List (Addr × Obj)} {o : Obj}
  (hr : ∀ p ∈ rest, p.1 ≠ src) (ho : SrcOk o),
    C KF p w mean mg mb 49 3 [.ref src] ((src, o) :: rest) (fun v nx => ∃ l k vs ns o', v = .ref l ∧ nx = (l, listOf vs.toArray k) :: (src, o') :: rest ∧ SrcOk o' ∧ IntsAre vs ns ∧ Good ns)
structure RunsSt (KF : Params → Frag) (p : Program) : Prop where
  out : ∀ {w : World} {mean : ExcName → Option Value} {mg mb : Str → Option Value} {v : Value} {ns : List Int} {news : List (Addr × Obj)}
  (hS : SortsTo PySem.Challenge.rw_xm0696_01.row.prog w v news ns) (hlen : ns.length ≤ 10),
    C KF p w mean mg mb 21 12 [v] news (fun r nx => ∃ fnd vs c tl, r = .ref fnd ∧ nx = (fnd, listOf (List.toArray vs) c) :: (tl ++ news) ∧ DatAll tl vs (pairsD (runsZ ns)) ∧ vs.length ≤ 10)
structure RightSt (KF : Params → Frag) (p : Program) : Prop where
  out : ∀ {w : World} {mean : ExcName → Option Value} {mg mb : Str → Option Value} {l : Addr} {c : Nat} {vs : List Value} {ns : List Int} {news : List (Addr × Obj)}
  (hm : (l, listOf vs.toArray c) ∈ news) (hi : IntsAre vs ns) (hg : Good ns),
    C KF p w mean mg mb 54 24 [.ref l] news (fun r nx => r = .bool true ∧ nx = news)
structure PoolSt (KF : Params → Frag) (p : Program) : Prop where
  out : ∀ {w : World} {mean : ExcName → Option Value} {mg mb : Str → Option Value} {sc : Addr} {vs : List Value} {ns : List Int} {news : List (Addr × Obj)},
    ∀ (dp un : Nat) (gd : Option (List Code)) (cn : Str) (cs : Scope) (a : Addr) (ccd : Value) (cl : List (Str × Addr)) (outer : List Env) (A₀ : Around) (base h₀ : Heap) (L : Addr) (m : Str → Option Value) (s : Shared) (Q E : Value → Shared → Prop),
    Below A₀ base outer h₀ → Fr h₀ L s.heap m → (KF w.params).In h₀ → News h₀ L s.heap news → Top p (looseW p []) mean mg mb h₀ → cs.kind = .function → dp + 3 < recursionLimit → un + 8 * 3 < cLine →
    base.IsList sc vs.toArray → IntsAre vs ns → (ns.length : Int) < 2 ^ 62 →
    (∀ (src : Addr) (o : Obj) (h' : Heap) (tk' : Nat), SrcOk o → Fr h₀ L h' m → News h₀ L h' ((src, o) :: news) → (∀ q ∈ news, q.1 < src) → Q (.ref src) { s with heap := h', toks := tk' }) →
    wpAny (model PySem.Challenge.rw_xm0696_01.row.prog w) (ktrTop dp un gd cn cs L a ccd cl outer) (call (.ref 28) [.ref sc]) Q E s
theorem TakeSt.U {KF : Params → Frag} {p : Program} (T : TakeSt KF p) {w : World} {mean : ExcName → Option Value} {mg mb : Str → Option Value} {src : Addr} {top : Int} {tt : Tok} {news : List (Addr × Obj)} {u : Obj → List (Addr × Obj)} {o : Obj}
  (U : UpdF src o news u) (ho : SrcOk o) (h0 : 0 < top) (h16 : top ≤ 16) :
  C KF p w mean mg mb 35 1 [.ref src, .int top tt] news (fun v nx => ∃ r t o', v = .int r t ∧ nx = u o' ∧ SrcOk o' ∧ 0 ≤ r ∧ r < top) := by
  obtain ⟨a, b, ta, tb, n, rfl, ha, hb, hb'⟩ := ho
  obtain ⟨pre, post, rfl, e, h1, h2⟩ := U.split
  refine Cl.mono (T.out (rest := pre ++ post) (n := n) (ta := ta) (tb := tb) (fun p hp => (List.mem_append.mp hp).elim (h1 p) (h2 p)) ha hb hb' h0 h16) ?_ ?_ (Nat.le_refl _)
  · intro q hq
    simp only [List.mem_cons, List.mem_append] at hq ⊢
    rcases hq with h | h | h
    · exact .inr (.inl h)
    · exact .inl h
    · exact .inr (.inr h)
  · rintro v nx ⟨r, t, a', b', ta', tb', n', rfl, rfl, g1, g2, g3, g4, g5, g6⟩
    refine ⟨_, ⟨r, t, _, rfl, rfl, ⟨a', b', ta', tb', n', rfl, g3, g5, g6⟩, g1, g2⟩, ?_⟩
    intro q hq
    rw [e] at hq
    simp only [List.mem_cons, List.mem_append] at hq ⊢
    rcases hq with h | h | h
    · exact .inr (.inl h)
    · exact .inl h
    · exact .inr (.inr h)
end Mine

open PySem PySem.W PyProof.Rows
local macro_rules | `(tactic| k_all) => `(tactic| ((with_reducible rename Mine.Mark 1 => mkX); assumption))
local macro_rules | `(tactic| walk_at "binaryOp Mult int int") => `(tactic| ((with_reducible rename Mine.Mark 1 => mkX); with_reducible refine mul_int ?_ Mine.mul_ok))
local macro_rules | `(tactic| walk_at "call ref") => `(tactic| (
  (with_reducible rename Mine.Mark 2 => mkX)
  k_here
  (with_reducible show wpAny _ _ (call (Value.ref 35) _) _ _ _)
  refine' Mine.TakeSt.U ?kH ?kU ?ko ?k0 ?k16 _ _ _ _ _ _ _ _ _ _ _ _ _ _ _ _ _ ?kB ?kF ?kX ?kN ?kT ?kk ?kd ?ku ?_
  (case kH => assumption); (case kB => k_asm); (case kF => k_asm); (case kX => k_asm); (case kN => k_asm); (case kT => k_asm)
  (case kU => assumption); (case ko => assumption); (case k0 => assumption); (case k16 => assumption); (case kk => first | exact rfl | assumption); (case kd => ktr_room); (case ku => ktr_units)
  intro v9 nx9 h9 tk9 hR9 F9 N9
  obtain ⟨r9, t9, o9, hv9, hn9, ho9, hr9, hr9'⟩ := hR9
  subst hv9; subst hn9
  (try dsimp only)
  (try k_fold)))
local macro_rules | `(tactic| k_mem) => `(tactic| ((with_reducible rename Mine.Mark 2 => mkX); first | assumption | exact Mine.UpdF.mem (by assumption) (by assumption) (by assumption) _))
local macro_rules | `(tactic| walk_at "call builtin:len") => `(tactic| ((with_reducible rename Mine.Mark 2 => mkX); (k_here; (with_reducible show wpAny _ _ (call (Value.builtin "len") [Value.ref _]) _ _ _); (refine KM.len_K (by k_asm) (by k_dflt k_mem) (Mine.size_ints (by assumption)) (by omega) ?_))))
local macro_rules | `(tactic| walk_at "subscriptTail") => `(tactic| ((with_reducible rename Mine.Mark 2 => mkX); (k_here; (with_reducible show wpAny _ _ (subscriptTail _ _ (Value.ref _) (Value.int _ _)) _ _ _); k_dflt (refine' ksa_sub ?k1 ?k2 ?k3 ?k4 ?k5 ?k6 ?_ ?k7; (case k1 => k_asm); (case k2 => k_mem); (case k3 => assumption); (case k4 => omega); (case k5 => omega); (case k6 => omega); (case k7 => with_unfolding_all rfl); k_whole); intro _)))
local macro_rules | `(tactic| k_all) => `(tactic| ((with_reducible rename Mine.Mark 3 => mkX); first | assumption | (refine Mine.ne_append ?_ ?_ <;> k_all) | exact Mine.ne_of_allLt (by assumption) | exact Mine.ne_of_allLt (And.right (by assumption)) | exact Mine.ne_of_allLt (And.right (And.right (by assumption))) | exact Mine.ne_of_allLt (And.right (And.right (And.right (by assumption))))))
local macro_rules | `(tactic| walk_at "call ref") => `(tactic| (
  (with_reducible rename Mine.Mark 3 => mkX)
  k_here
  (with_reducible show wpAny _ _ (call (Value.ref 35) _) _ _ _)
  refine' Mine.TakeSt.U ?kH ?kU ?ko ?k0 ?k16 _ _ _ _ _ _ _ _ _ _ _ _ _ _ _ _ _ ?kB ?kF ?kX ?kN ?kT ?kk ?kd ?ku ?_
  (case kH => assumption); (case kB => k_asm); (case kF => k_asm); (case kX => k_asm); (case kN => k_asm); (case kT => k_asm)
  (case kU => k_updF); (case ko => assumption); (case k0 => decide); (case k16 => decide); (case kk => first | exact rfl | assumption); (case kd => ktr_room); (case ku => ktr_units)
  intro v9 nx9 h9 tk9 hR9 F9 N9
  obtain ⟨r9, t9, o9, hv9, hn9, ho9, hr9, hr9'⟩ := hR9
  subst hv9; subst hn9
  (try dsimp only at N9)
  (try dsimp only)
  (try k_fold)
  (try k_sweep)))
local macro_rules | `(tactic| walk_at "call ref") => `(tactic| (
  (with_reducible rename Mine.Mark 3 => mkX)
  k_here
  (with_reducible show wpAny _ _ (call (Value.ref 42) _) _ _ _)
  refine' Mine.OneSt.out ?kH ?kU ?ko ?km ?kne ?ki ?k0 ?k16 _ _ _ _ _ _ _ _ _ _ _ _ _ _ _ _ _ ?kB ?kF ?kX ?kN ?kT ?kk ?kd ?ku ?_
  (case kH => assumption); (case kB => k_asm); (case kF => k_asm); (case kX => k_asm); (case kN => k_asm); (case kT => k_asm)
  (case kU => k_updF); (case ko => assumption); (case km => k_mem); (case kne => k_ne); (case ki => l_ints); (case k0 => decide); (case k16 => decide); (case kk => first | exact rfl | assumption); (case kd => ktr_room); (case ku => ktr_units)
  intro v9 nx9 h9 tk9 hR9 F9 N9
  obtain ⟨r9, t9, o9, hv9, hn9, ho9, hr9⟩ := hR9
  subst hv9; subst hn9
  (try dsimp only at N9)
  (try dsimp only)
  (try k_fold)
  (try k_sweep)))
local macro_rules | `(tactic| walk_at "pyIter ref") => `(tactic| ((with_reducible rename Mine.Mark 3 => mkX); refine Mine.Stop.out ?_))
local macro_rules | `(tactic| k_all) => `(tactic| ((with_reducible rename Mine.Mark 4 => mkX); first | assumption | (refine Mine.ne_append ?_ ?_ <;> k_all) | exact Mine.ne_of_allLt (by assumption) | exact Mine.ne_of_allLt (And.right (by assumption)) | exact Mine.ne_of_allLt (And.right (And.right (by assumption))) | exact Mine.ne_of_allLt (And.right (And.right (And.right (by assumption)))) | exact Mine.ne_of_ltAll (by assumption)))
local macro_rules | `(tactic| walk_at "pyIter ref") => `(tactic| ((with_reducible rename Mine.Mark 4 => mkX); refine Mine.Stop.out ?_))
local macro_rules | `(tactic| walk_at "call builtin:sorted") => `(tactic| ((with_reducible rename Mine.Mark 4 => mkX); (k_here; refine Mine.SortsTo.use (by assumption) rfl (by k_asm) (by k_asm) (fun _ hp => List.Mem.tail _ hp) ?_; intro D' v' c' h' tk' F' N' l1 i'; (try k_lt l1); (try k_sweep))))
local macro_rules | `(tactic| walk_at "compareOp NotEq ref ref") => `(tactic| ((with_reducible rename Mine.Mark 4 => mkX); (k_here; (with_reducible show wpAny _ _ (compareOp CmpOp.NotEq (Value.ref _) (Value.ref _)) _ _ _); k_dflt (first
  | (refine' Mine.ne_some ?k1 ?k2 ?k3 ?k4 ?k5 ?k6 ?_; (case k1 => k_asm); (case k2 => k_mem); (case k3 => k_mem); (case k4 => assumption); (case k5 => (intro p hp; simp only [List.mem_cons, List.mem_append]; simp only [hp, true_or, or_true])); (case k6 => ktr_units))
  | (refine' Mine.ne_none ?k1 ?k2 ?k3 ?k6 ?_; (case k1 => k_asm); (case k2 => k_mem); (case k3 => k_mem); (case k6 => ktr_units))))))
local macro_rules | `(tactic| walk_at "subscriptTail") => `(tactic| ((with_reducible rename Mine.Mark 4 => mkX); (k_here; (with_reducible show wpAny _ _ (subscriptTail _ _ (Value.ref _) (Value.int (0) _)) _ _ _); k_dflt (refine' Mine.item_tup0 ?k1 ?k2 ?_ ?k6; (case k1 => k_asm); (case k2 => k_mem); (case k6 => with_unfolding_all rfl); k_whole))))
local macro_rules | `(tactic| walk_at "subscriptTail") => `(tactic| ((with_reducible rename Mine.Mark 4 => mkX); (k_here; (with_reducible show wpAny _ _ (subscriptTail _ _ (Value.ref _) (Value.int (1) _)) _ _ _); k_dflt (refine' Mine.item_tup1 ?k1 ?k2 ?_ ?k6; (case k1 => k_asm); (case k2 => k_mem); (case k6 => with_unfolding_all rfl); k_whole))))
local macro_rules | `(tactic| walk_at "subscriptTail") => `(tactic| ((with_reducible rename Mine.Mark 4 => mkX); (k_here; (with_reducible show wpAny _ _ (subscriptTail _ _ (Value.ref _) (Value.int (-1) _)) _ _ _); k_dflt (refine' Mine.item_last ?k1 ?k2 ?_ ?k6; (case k1 => k_asm); (case k2 => k_mem); (case k6 => with_unfolding_all rfl); k_whole))))
local macro_rules | `(tactic| walk_at "setItem ref int") => `(tactic| ((with_reducible rename Mine.Mark 4 => mkX); (k_here; (with_reducible show wpAny _ _ (setItem (Value.ref _) (Value.int _ _) (Value.ref _)) _ _ _); k_dflt (refine' Mine.set_last ?k1 ?k2 ?k3 ?_; (case k1 => k_asm); (case k2 => k_asm); (case k3 => k_upd); k_whole); intro h' F' N'; (try k_sweep))))
local macro_rules | `(tactic| k_mem) => `(tactic| ((with_reducible rename Mine.Mark 4 => mkX); first | assumption | exact List.Mem.head _ | (refine Mine.mem_tl ?_; k_mem) | (refine Mine.mem_l ?_; k_mem) | (refine Mine.mem_r ?_; k_mem)))
local macro_rules | `(tactic| k_mem) => `(tactic| ((with_reducible rename Mine.Mark 5 => mkX); first | assumption | exact List.Mem.head _ | (refine Mine.mem_tl ?_; k_mem) | (refine Mine.mem_l ?_; k_mem) | (refine Mine.mem_r ?_; k_mem)))
local macro_rules | `(tactic| k_all) => `(tactic| ((with_reducible rename Mine.Mark 5 => mkX); first | assumption | (refine Mine.ne_append ?_ ?_ <;> k_all) | exact Mine.ne_of_allLt (by assumption) | exact Mine.ne_of_allLt (And.right (by assumption)) | exact Mine.ne_of_allLt (And.right (And.right (by assumption))) | exact Mine.ne_of_allLt (And.right (And.right (And.right (by assumption)))) | exact Mine.ne_of_ltAll (by assumption) | exact Mine.ne_of_ltAll2 (by assumption) (by omega)))
local macro_rules | `(tactic| walk_at "eval ListComp") => `(tactic| ((with_reducible rename Mine.Mark 5 => mkX); (k_here; k_dflt (refine LCt.ListComp_T (F₀ := by k_asm) (by with_unfolding_all rfl) (by decide) (by rfl) (by decide) (by rfl) ?_))))
local macro_rules | `(tactic| walk_at "CompSrcT") => `(tactic| ((with_reducible rename Mine.Mark 5 => mkX); refine Mine.Stop.out ?_))
local macro_rules | `(tactic| walk_at "compareOp NotIn int ref") => `(tactic| ((with_reducible rename Mine.Mark 5 => mkX); (k_here; k_dflt (refine' Mine.notIn_ints ?k1 ?k2 ?k3 ?k4 ?_; (case k1 => k_asm); (case k2 => k_mem); (case k3 => assumption); (case k4 => ktr_units)))))
local macro_rules | `(tactic| walk_at "call builtin:sorted") => `(tactic| ((with_reducible rename Mine.Mark 5 => mkX); (k_here; k_dflt (refine' Mine.SortsTo.use (Mine.sorts_list ?m ?i ?len ?p ?s) rfl ?F ?N (fun _ h => h) ?_; (case F => k_asm); (case N => k_asm); (case m => k_mem); (case i => assumption); (case len => exact Nat.le_trans (List.length_filter_le _ _) (by assumption)); (case p => assumption); (case s => assumption)); intro D' v' c' h' tk' F' N' l1 i'; (try k_lt l1); (try k_sweep))))
local macro_rules | `(tactic| walk_at "exec Assign cons ListComp") => `(tactic| ((with_reducible rename Mine.Mark 5 => mkX); (k_here; k_dflt (refine LCg.Assign_ListComp_U (F₀ := by k_asm) (by rfl) (by with_unfolding_all rfl) (by with_unfolding_all rfl) (by decide) (by rfl) (by decide) (by rfl) (by rfl) (by rfl) ?_))))
local macro_rules | `(tactic| walk_at "CompSrc") => `(tactic| ((with_reducible rename Mine.Mark 5 => mkX); refine Mine.Stop.out ?_))
local macro_rules | `(tactic| walk_at "call builtin:len") => `(tactic| ((with_reducible rename Mine.Mark 5 => mkX); (k_here; (with_reducible show wpAny _ _ (call (Value.builtin "len") [Value.ref _]) _ _ _); k_dflt (refine' KM.len_K ?k1 ?k2 (Mine.size_ints ?k3) ?k4 ?_; (case k1 => k_asm); (case k2 => k_mem); (case k3 => assumption); (case k4 => omega)))))
local macro_rules | `(tactic| walk_at "subscriptTail Name Name ref int") => `(tactic| ((with_reducible rename Mine.Mark 5 => mkX); (k_here; (with_reducible show wpAny _ _ (subscriptTail _ _ (Value.ref _) (Value.int _ _)) _ _ _); k_dflt (refine' ksa_sub ?k1 ?k2 ?k3 ?k4 ?k5 ?k6 ?_ ?k7; (case k1 => k_asm); (case k2 => k_mem); (case k3 => assumption); (case k4 => omega); (case k5 => omega); (case k6 => omega); (case k7 => with_unfolding_all rfl); k_whole); intro _)))
local macro_rules | `(tactic| walk_at "eval Name") => `(tactic| ((with_reducible rename Mine.Mark 5 => mkX); (k_here; (with_reducible show wpAny _ _ (eval (Expr.Name (PySem.Str.ofString "lows") _) (compEnvC _ _ _ _)) _ _ _); k_dflt (refine' lcf_cell ?N ?c ?m ?d ?_ ?a ?b; (case a => rfl); (case b => rfl); (case N => k_asm); (case c => rfl); (case m => k_mem); (case d => k_asm)))))
local macro_rules | `(tactic| walk_at "eval Name") => `(tactic| ((with_reducible rename Mine.Mark 5 => mkX); (k_here; (with_reducible show wpAny _ _ (eval (Expr.Name (PySem.Str.ofString "highs") _) (compEnvC _ _ _ _)) _ _ _); k_dflt (refine' lcf_cell ?N ?c ?m ?d ?_ ?a ?b; (case a => rfl); (case b => rfl); (case N => k_asm); (case c => rfl); (case m => k_mem); (case d => k_asm)))))
local macro_rules | `(tactic| walk_at "eval Name") => `(tactic| ((with_reducible rename Mine.Mark 5 => mkX); (k_here; (with_reducible show wpAny _ _ (eval (Expr.Name (PySem.Str.ofString "codes") _) (compEnvC _ _ _ _)) _ _ _); k_dflt (refine' lcf_cell ?N ?c ?m ?d ?_ ?a ?b; (case a => rfl); (case b => rfl); (case N => k_asm); (case c => rfl); (case m => k_mem); (case d => k_asm)))))
local macro_rules | `(tactic| walk_at "eval Name") => `(tactic| ((with_reducible rename Mine.Mark 5 => mkX); (k_here; (with_reducible show wpAny _ _ (eval (Expr.Name (PySem.Str.ofString "code") _) (compEnvC _ _ _ _)) _ _ _); k_dflt (refine LCgL.ld_own (by k_asm) (by k_mem) (by assumption) (by assumption) ?_))))
local macro_rules | `(tactic| walk_at "eval Name") => `(tactic| ((with_reducible rename Mine.Mark 5 => mkX); (k_here; (with_reducible show wpAny _ _ (eval (Expr.Name (PySem.Str.ofString "place") _) (compEnvC _ _ _ _)) _ _ _); k_dflt (refine LCgL.ld_own (by k_asm) (by k_mem) (by assumption) (by assumption) ?_))))
local macro_rules | `(tactic| walk_at "exec For Name Name cons nil") => `(tactic| ((with_reducible rename Mine.Mark 5 => mkX); (k_here; (rename Fr _ _ _ _ => lF'); (with_unfolding_all refine' For_invVF lF' ?k1 ?k2 ?_; (case k1 => exact rfl); (case k2 => exact rfl); k_whole))))
local macro_rules | `(tactic| walk_at "compareOp Eq ref ref") => `(tactic| ((with_reducible rename Mine.Mark 5 => mkX); (k_here; k_dflt (refine' Mine.eq_pairs ?k1 ?k2 ?k3 ?k4 ?k5 ?k6 ?k7 ?k8 ?_; (case k1 => k_asm); (case k2 => k_mem); (case k3 => k_mem); (case k4 => assumption); (case k5 => assumption); (case k6 => (intro p hp; simp only [List.mem_cons, List.mem_append]; simp only [hp, true_or, or_true])); (case k7 => (intro p hp; simp only [List.mem_cons, List.mem_append]; simp only [hp, true_or, or_true])); (case k8 => ktr_units)))))
local macro_rules | `(tactic| walk_at "call ref") => `(tactic| (
  (with_reducible rename Mine.Mark 5 => mkX)
  k_here
  (with_reducible show wpAny _ _ (call (Value.ref 21) _) _ _ _)
  k_dflt (
    refine' Mine.RunsSt.out ?kH ?kS ?kl _ _ _ _ _ _ _ _ _ _ _ _ _ _ _ _ _ ?kB ?kF ?kX ?kN ?kT ?kk ?kd ?ku ?_
    (case kH => assumption); (case kB => k_asm); (case kF => k_asm); (case kX => k_asm); (case kN => k_asm); (case kT => k_asm)
    (case kS => first | exact Mine.sorts_list (by k_mem) (by assumption) (by assumption) (by assumption) (by assumption) | exact Mine.sorts_dict (by k_mem) (by assumption) (by assumption) (by assumption) (by assumption) (by assumption) (by assumption))
    (case kl => assumption)
    (case kk => first | exact rfl | assumption); (case kd => ktr_room); (case ku => ktr_units))
  intro v9 nx9 h9 tk9 hR9 F9 N9
  obtain ⟨f9, vs9, c9, tl9, hv9, hn9, hD9, hl9⟩ := hR9
  subst hv9; subst hn9
  (try dsimp only)
  (try k_fold)))
local macro_rules | `(tactic| walk_at "pyIter ref") => `(tactic| ((with_reducible rename Mine.Mark 5 => mkX); refine Mine.Stop.out ?_))
local macro_rules | `(tactic| k_mem) => `(tactic| ((with_reducible rename Mine.Mark 7 => mkX); first | assumption | exact List.Mem.head _ | (refine Mine.mem_tl ?_; k_mem) | (refine Mine.mem_l ?_; k_mem) | (refine Mine.mem_r ?_; k_mem)))
local macro_rules | `(tactic| k_all) => `(tactic| ((with_reducible rename Mine.Mark 7 => mkX); first | assumption | (refine Mine.ne_append ?_ ?_ <;> k_all) | exact Mine.ne_of_allLt (by assumption) | exact Mine.ne_of_allLt (And.right (by assumption)) | exact Mine.ne_of_allLt (And.right (And.right (by assumption))) | exact Mine.ne_of_ltAll (by assumption)))
local macro_rules | `(tactic| walk_at "pyIter ref") => `(tactic| ((with_reducible rename Mine.Mark 7 => mkX); refine Mine.Stop.out ?_))
local macro_rules | `(tactic| walk_at "call ref") => `(tactic| (
  (with_reducible rename Mine.Mark 7 => mkX)
  k_here
  (with_reducible show wpAny _ _ (call (Value.ref 54) _) _ _ _)
  k_dflt (
    refine' Mine.RightSt.out ?kH ?km ?ki ?kg _ _ _ _ _ _ _ _ _ _ _ _ _ _ _ _ _ ?kB ?kF ?kX ?kN ?kT ?kk ?kd ?ku ?_
    (case kH => assumption); (case kF => k_asm); (case kN => k_asm); (case kX => k_asm); (case kT => k_asm); (case kB => k_asm)
    (case km => k_mem)
    (case ki => first | assumption | l_ints)
    (case kg => first | assumption | (refine ⟨by decide, by decide, by decide⟩))
    (case kk => first | exact rfl | assumption); (case kd => ktr_room); (case ku => ktr_units))
  intro v9 nx9 h9 tk9 hR9 F9 N9
  obtain ⟨hv9, hn9⟩ := hR9
  subst hv9; subst hn9
  (try dsimp only)
  (try k_fold)))
local macro_rules | `(tactic| walk_at "call ref") => `(tactic| (
  (with_reducible rename Mine.Mark 7 => mkX)
  k_here
  (with_reducible show wpAny _ _ (call (Value.ref 28) _) _ _ _)
  k_dflt (
    refine' Mine.PoolSt.out ?kH _ _ _ _ _ _ _ _ _ _ _ _ _ _ _ _ _ ?kB ?kF ?kX ?kN ?kT ?kk ?kd ?ku ?kl ?ki ?kn ?_
    (case kH => assumption); (case kF => k_asm); (case kN => k_asm); (case kX => k_asm); (case kT => k_asm); (case kB => k_asm)
    (case kl => assumption); (case ki => assumption); (case kn => omega)
    (case kk => first | exact rfl | assumption); (case kd => ktr_room); (case ku => ktr_units))
  intro src9 o9 h9 tk9 hs9 F9 N9 l9
  (try dsimp only)
  (try k_fold)))
local macro_rules | `(tactic| walk_at "call ref") => `(tactic| (
  (with_reducible rename Mine.Mark 7 => mkX)
  k_here
  (with_reducible show wpAny _ _ (call (Value.ref 49) _) _ _ _)
  k_dflt (
    refine' Mine.CodesSt.out ?kH ?kr ?ko _ _ _ _ _ _ _ _ _ _ _ _ _ _ _ _ _ ?kB ?kF ?kX ?kN ?kT ?kk ?kd ?ku ?_
    (case kH => assumption); (case kF => k_asm); (case kN => k_asm); (case kX => k_asm); (case kT => k_asm); (case kB => k_asm)
    (case kr => k_all); (case ko => assumption)
    (case kk => first | exact rfl | assumption); (case kd => ktr_room); (case ku => ktr_units))
  intro v9 nx9 h9 tk9 hR9 F9 N9
  obtain ⟨l9, k9, vs9, ns9, o9, hv9, hn9, ho9, hi9, hg9⟩ := hR9
  subst hv9; subst hn9
  (try dsimp only)
  (try k_fold)))
set_option maxRecDepth 100000 in
set_option maxHeartbeats 100000000 in
theorem PySem.Challenge.cw_xm0696_01_holds : PySem.Challenge.rw_xm0696_01.Holds := by
  w_on; o_law; k_head
  case hw => w_witness2
  refine Mine.with_top Mine.TakeSt ?_ fun hTake => ?_
  · refine ⟨?_⟩
    have mk0 : Mine.Mark 1 := Mine.Mark.mk 1
    intro w mean mg mb src n a b top ta tb tt rest hr ha hb hb' h0 h16
    unfold Mine.C Mine.Cl
    k_fill
    w_top off
    intro dp un gd cn cs a9 ccd cl outer A₀ base h₀ L m s Q E B F X N T hk hd hu hret
    refine wpAny_call ?_
    k_dflt cell_enter
    k_steps
    · refine hret _ _ _ _ ⟨_, _, _, _, _, _, _, rfl, rfl, ?_⟩ (by assumption) (by assumption)
      have h1 := Mine.mod_facts a h0
      have h2 := Mine.div_le ha h0
      exact ⟨h1.1, h1.2, h2.1, h2.2, hb, hb'⟩
    · refine hret _ _ _ _ ⟨_, _, _, _, _, _, _, rfl, rfl, ?_⟩ (by assumption) (by assumption)
      have h2 := Mine.mod_facts (b * 39373 + 7) (m := 2147483647) (by decide)
      exact ⟨(Mine.mod_facts _ h0).1, (Mine.mod_facts _ h0).2, ha, Int.le_refl _, h2.1, h2.2⟩
  refine Mine.with_top Mine.OneSt ?_ fun hOne => ?_
  · refine ⟨?_⟩
    have mk0 : Mine.Mark 2 := Mine.Mark.mk 2
    intro w mean mg mb src thg n2 vs ns news u o U ho hm hne hi h0 h16
    unfold Mine.C Mine.Cl
    k_fill
    w_top off
    intro dp un gd cn cs a9 ccd cl outer A₀ base h₀ L m s Q E B F X N T hk hd hu hret
    refine wpAny_call ?_
    k_dflt cell_enter
    k_steps
    exact hret _ _ _ _ ⟨_, _, _, rfl, rfl, by assumption, Mine.getD_in (by assumption) (by assumption)⟩ (by assumption) (by assumption)
  refine Mine.with_top Mine.CodesSt ?_ fun hCodes => ?_
  · refine ⟨?_⟩
    have mk0 : Mine.Mark 3 := Mine.Mark.mk 3
    intro w mean mg mb src rest o hr ho
    unfold Mine.C Mine.Cl
    k_fill
    w_top off
    intro dp un gd cn cs a9 ccd cl outer A₀ base h₀ L m s Q E B F X N T hk hd hu hret
    refine wpAny_call ?_
    k_dflt cell_enter
    k_steps
    unfold Mine.Stop
    (rename IsRange _ _ _ _ _ _ _ _ => rgX)
    (rename Fr _ _ _ _ => lF)
    (rename News _ _ _ _ => lN)
    refine' Mine.codes_loop (src := src) (rest := rest) rfl rgX (by assumption) (by assumption) ?hFP3 ?hNP3 (by assumption) ?hcP3 ?hneP3 hr ?hr2P3 ?turnP3 ?doneP3
    case hFP3 => exact lF
    case hNP3 => exact Mine.news_24 lN
    case hcP3 => rfl
    case hneP3 => k_ne
    case hr2P3 => k_all
    case turnP3 =>
      intro i k t code tc vs ns c o₁ h tk own hC hlen hI ho₁ hown1 hown2 F N
      dsimp only [envOf] at F N
      k_steps
      exact ⟨rfl, _, _, _, _, _, _, _, _, rfl, by assumption, by assumption, by assumption, Mine.news_tl (by assumption)⟩
    case doneP3 =>
      intro i u code tc vs ns c o₁ h tk hn hC hI ho₁ hlen F N
      dsimp only [envOf] at F N
      have hnl : ns.length ≤ 10 := by rw [hC.1]; exact hn
      k_steps
      · exact hret _ _ _ _ ⟨_, _, _, _, _, rfl, rfl, by assumption, hI, hC.good hn (by assumption)⟩ (by assumption) (Mine.news_tl (by assumption))
      · refine hret _ _ _ _ ⟨_, _, _, _, _, rfl, rfl, by assumption, ?_, (hC.good hn (by assumption)).rev⟩ (by assumption) (Mine.news_14 (by assumption))
        assumption
      · refine' hret _ _ _ _ ⟨_, _, _, _, _, rfl, rfl, ?_, ?k9P3, Mine.Good.rot (hC.good hn ?_) _⟩ ?_ (Mine.news_14 (Mine.news_14 ?n9P3))
        case n9P3 => assumption
        all_goals assumption
  refine Mine.with_top Mine.RunsSt ?_ fun hRuns => ?_
  · refine ⟨?_⟩
    have mk0 : Mine.Mark 4 := Mine.Mark.mk 4
    intro w mean mg mb v ns news hS hlen
    unfold Mine.C Mine.Cl
    k_fill
    w_top off
    intro dp un gd cn cs a9 ccd cl outer A₀ base h₀ L m s Q E B F X N T hk hd hu hret
    refine wpAny_call ?_
    k_dflt cell_enter
    k_steps
    unfold Mine.Stop
    (rename Fr _ _ _ _ => lF)
    (rename News _ _ _ _ => lN)
    refine' Mine.runs_loop rfl ?hSP4 ?hiP4 ?hFP4 ?hNP4 ?hrP4 hlen ?turn0P4 ?turn1P4 ?doneP4
    case hNP4 => exact Mine.news_swap lN
    case hFP4 => exact lF
    case hSP4 => exact .head _
    case hiP4 => assumption
    case hrP4 => exact List.forall_mem_cons.mpr ⟨by k_ne, by k_all⟩
    case turn0P4 =>
      intro k t c h tk tl own ho htl F N
      dsimp only [envOf] at F N
      k_steps
      exact ⟨rfl, _, _, _, _, _, _, _, rfl, by assumption, Mine.news_13 (by assumption) rfl, Mine.own_ne (by assumption), by omega⟩
    case turn1P4 =>
      intro k t c h tk tl own vs a x y tx ty n ps ho htl hat hD hl F N
      dsimp only [envOf] at F N
      k_steps
      · exact ⟨rfl, _, _, _, _, _, _, _, _, _, rfl, by assumption, Mine.news_13 (by assumption) rfl, Mine.own_ne (by assumption), by omega, .inl ⟨by assumption, rfl, rfl⟩⟩
      · exact ⟨rfl, _, _, _, _, _, _, _, _, _, rfl, by assumption, Mine.news_13 (by assumption) (Mine.push_eq _ _ _), Mine.own_ne (by assumption), by omega, .inr ⟨by assumption, rfl, rfl⟩⟩
    case doneP4 =>
      intro u vs c tl h tk hD hl F N
      dsimp only [envOf] at F N
      k_steps
      exact hret _ _ _ _ ⟨_, _, _, tl, rfl, rfl, hD, hl⟩ (by assumption) (Mine.news_drop (by assumption))
  refine Mine.with_top Mine.RightSt ?_ fun hRight => ?_
  · refine ⟨?_⟩
    have mk0 : Mine.Mark 5 := Mine.Mark.mk 5
    intro w mean mg mb l c vs ns news hm hi hg
    unfold Mine.C Mine.Cl
    k_fill
    w_top off
    intro dp un gd cn cs a9 ccd cl outer A₀ base h₀ L m s Q E B F X N T hk hd hu hret
    refine wpAny_call ?_
    k_dflt (refine' code_defC ?k1P5 ?k2P5 ?k3P5 ?k4P5 ?k5P5 ?kAP5 ?kFP5 ?kKP5 ?k6P5 ?k7P5 ?k8P5 ?k9P5 ?kBP5 ?kDP5 ?_ ?c2P5 ?c3P5 ?c4P5; (case kAP5 => exact rfl); (case kFP5 => exact rfl); (case kKP5 => assumption); (case k1P5 => k_asm); (case k2P5 => k_asm); (case k3P5 => k_asm); (case k4P5 => k_asm); (case k5P5 => k_asm); (case k6P5 => k_is); (case k7P5 => k_is); (case k8P5 => ktr_room); (case k9P5 => exact BindsTo.of_eq rfl); (case kBP5 => exact rfl); (case kDP5 => decide +kernel); (case c2P5 => exact rfl); (case c3P5 => exact rfl); (case c4P5 => exact rfl); k_whole; intro g' L' h' tk' cells' FG' F' N' Y' B' X' T' l1; (try k_lt l1); k_cells Y'; (try simp only [List.cons_append, List.nil_append] at N'); (try dsimp only); (try k_lift B'); (try k_fold))
    k_steps
    have hlen : ns.length ≤ 10 := hg.2.1
    obtain ⟨zs, hzp, hzs⟩ := Mine.sorted_row ns hg.1
    have hlp := Mine.lows_perm hzp
    have hhp := Mine.highs_perm hzp
    have hlr := Mine.lows_rising hzs
    have hhr := Mine.highs_rising hzs
    unfold Mine.Stop
    refine' Mine.comp_filter (ns := ns) (fun k => decide (k - 1 ∉ ns)) rfl ?hFaP5 ?hNaP5 ?hmaP5 hi hlen rfl rfl ?hdbaP5 ?testaP5 ?finaP5
    case hFaP5 => assumption
    case hNaP5 => assumption
    case hmaP5 => k_mem
    case hdbaP5 => decide
    case testaP5 =>
      intro g k t I oI C oC D m₂ ys h tk E' hkn hC hx F N
      k_steps
      exact ⟨rfl, _, rfl⟩
    have hll : (Mine.lowsZ zs).length ≤ 10 := Nat.le_trans (Mine.lows_le zs) (by rw [hzp.length_eq]; exact hlen)
    have hhl : (Mine.highsZ zs).length ≤ 10 := Nat.le_trans (Mine.highs_le zs) (by rw [hzp.length_eq]; exact hlen)
    case finaP5 =>
      intro g ys hys
      k_steps
      unfold Mine.Stop
      refine' Mine.comp_filter (ns := ns) (fun k => decide (k + 1 ∉ ns)) rfl ?hFbP5 ?hNbP5 ?hmbP5 hi hlen rfl rfl ?hdbbP5 ?testbP5 ?finbP5
      case hFbP5 => assumption
      case hNbP5 => assumption
      case hmbP5 => k_mem
      case hdbbP5 => decide
      case testbP5 =>
        intro g k t I oI C oC D m₂ ys h tk E' hkn hC hx F N
        k_steps
        exact ⟨rfl, _, rfl⟩
      case finbP5 =>
        intro g ys hys
        k_steps
        unfold Mine.Stop
        refine' Mine.comp_pairs (ps := Mine.runsZ zs) rfl ?hFcP5 ?hNcP5 ?hrcP5 ?hbcP5 ?hlencP5 ?turncP5 ?fincP5
        case hFcP5 => assumption
        case hNcP5 => assumption
        case hrcP5 => assumption
        case hbcP5 => rw [← Mine.runs_lows hzs, List.length_map]
        case hlencP5 => rw [← Mine.runs_lows hzs, List.length_map] at hll; exact hll
        case turncP5 =>
          intro g i p t I oI C oC D m₂ ys h tk tl E' hp hC hx F N
          obtain ⟨p1, p2⟩ := p
          obtain ⟨e1, e2, e3, e4⟩ := Mine.runs_at hzs hp
          subst e1
          subst e2
          k_steps
          exact ⟨_, _, _, _, _, _, rfl, rfl, by assumption, by assumption, by omega, by omega, by omega⟩
        case fincP5 =>
          intro g ys tl hD
          k_steps
          unfold Mine.Stop
          (rename Fr _ _ _ _ => lF)
          (rename News _ _ _ _ => lN)
          refine' Mine.keys_loop rfl ?hSdP5 hi hg.1 hlen ?hFdP5 ?hNdP5 ?hddP5 ?hfdP5 ?turndP5 ?donedP5
          case hNdP5 => exact lN
          case hFdP5 => exact lF
          case hSdP5 => k_dflt k_mem
          case hddP5 => assumption
          case hfdP5 => assumption
          case turndP5 =>
            intro k t o kvs c h tk own hd hf hc ho F N
            dsimp only [envOfC] at F N
            k_steps
            exact ⟨rfl, _, _, _, _, rfl, by assumption, by assumption, by assumption, by assumption⟩
          case donedP5 =>
            intro u o kvs h tk hd hf F N
            dsimp only [envOfC] at F N
            have hzl := Mine.le_of_lt_row hzs
            have hzlen : zs.length ≤ 10 := by rw [hzp.length_eq]; exact hlen
            k_steps
            refine hret _ _ _ _ ⟨rfl, rfl⟩ (by assumption) (cb_drop (by assumption) ?_)
            intro p hp
            simp only [List.mem_cons, List.mem_append]
            simp only [hp, or_true]
  refine Mine.with_top Mine.PoolSt ?_ fun hPool => ?_
  · refine ⟨?_⟩
    have mk0 : Mine.Mark 6 := Mine.Mark.mk 6
    intro w mean mg mb sc vs ns news
    k_fill
    w_top off
    intro dp un gd cn cs a9 ccd cl outer A₀ base h₀ L m s Q E B F X N T hk hd hu hl hi hlen hret
    refine wpAny_call ?_
    k_dflt cell_enter
    k_steps
    all_goals (
      refine' hret _ _ _ _ ?h1P6 ?h2P6 ?h3P6 ?h4P6
      (case h3P6 => assumption)
      (case h2P6 => assumption)
      (case h4P6 => assumption)
      (case h1P6 => exact Mine.src_ok (by omega)))
  have mk0 : Mine.Mark 7 := Mine.Mark.mk 7
  k_go0
  all_goals try k_fold
  k_steps
  unfold Mine.Stop
  (rename IsRange _ _ _ _ _ _ _ _ => rgX)
  (rename Fr _ _ _ _ => lF)
  (rename News _ _ _ _ => lN)
  refine' Mine.law_loop rfl rgX ?hFP7 ?hNP7 ?hoP7 ?turnP7 ?doneP7
  case hNP7 => exact lN
  case hFP7 => exact lF
  case hoP7 => assumption
  case turnP7 =>
    intro k t o₁ h tk own ho hown F N
    dsimp only [envOf] at F N
    k_steps
    exact ⟨rfl, _, _, _, rfl, by assumption, by assumption, Mine.news_tl (by assumption)⟩
  case doneP7 =>
    intro u o₁ h tk F N
    dsimp only [envOf] at F N
    k_steps
