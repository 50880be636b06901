import PyProof.Rows.All
import Wide.All
import OpenK.AllK
import Wide.FinOn
import PySem.Challenge.RW_sf0043_01
open PySem PySem.W PyProof.Rows
set_option Elab.async false
namespace Mine
section
local macro_rules | `(tactic| o_head $_) => `(tactic| exact (‹∀ P : Prop, P›) _)
/- Only the constant kk.heap_1 (the written part), which k_head leaves behind, is used below: so that contracts can name it. The theorem kk itself is used nowhere. -/
set_option maxRecDepth 100000 in
set_option maxHeartbeats 8000000 in
theorem kk (G : ∀ P : Prop, P) : PySem.Challenge.rw_sf0043_01.Holds := by
  w_on
  refine holds_law (G _) fun said => ?_
  k_head
end
end Mine
set_option Elab.async false
section
open PySem PySem.W PySem.Spec PySem.Calls PyProof.Rows
namespace Mine

theorem nDrop2 {h₀ h : Heap} {L : Addr} {q d : Addr × Obj} {news : List (Addr × Obj)} (N : News h₀ L h (q :: d :: news)) : News h₀ L h (q :: news) :=
  fun p hp => N p (by rcases List.mem_cons.mp hp with e | e; exact e ▸ .head _; exact .tail _ (.tail _ e))
theorem nSub {h₀ h : Heap} {L : Addr} {news news' : List (Addr × Obj)} (N : News h₀ L h news) (hs : ∀ p ∈ news', p ∈ news) : News h₀ L h news' := fun p hp => N p (hs p hp)

section
variable {w : World} {p : Program} {loose : List Str} {mean : ExcName → Option Value} {mg mb : Str → Option Value} {dp un : Nat} {gd : Option (List Code)} {cn : Str} {cs : Scope} {a : Addr} {ccd : Value} {cl : List (Str × Addr)} {outer : List Env} {A₀ : Around} {base h₀ : Heap} {L : Addr} {m : Str → Option Value} {news : List (Addr × Obj)} {s : Shared}
  {Q E : Value → Shared → Prop}

section
local macro_rules | `(tactic| k_all) => `(tactic| assumption)
set_option maxRecDepth 100000 in
set_option maxHeartbeats 8000000 in
theorem reach {l : Addr} {x y : Int} {tx ty : Tok} {n : Nat} {many : Int} {tm : Tok}
    (B : Below A₀ base outer h₀) (F : Fr h₀ L s.heap m) (X : (kk.heap_1 w.params).In h₀) (N : News h₀ L s.heap ((l, listOf [.int x tx, .int y ty].toArray n) :: news)) (hne : ∀ p ∈ news, p.1 ≠ l) (T : Top p loose mean mg mb h₀) (hk : cs.kind = .function)
    (hx : 0 ≤ x) (hy0 : 0 ≤ y) (hy1 : y < 65371) (hm0 : 0 < many) (hm1 : many < 100) (hd : dp + 2 < recursionLimit) (hu : un + 100 < cLine)
    (hret : ∀ r x' y' tr tx' ty' h' tk', 0 ≤ x' → 0 ≤ y' → y' < 65371 → 0 ≤ r → r < many → Fr h₀ L h' m → News h₀ L h' ((l, listOf [.int x' tx', .int y' ty'].toArray n) :: news) → Q (.int r tr) { s with heap := h', toks := tk' }) :
    wpAny (model PySem.Challenge.rw_sf0043_01.row.prog w) (ktrTop dp un gd cn cs L a ccd cl outer) (call (.ref 534) [.ref l, .int many tm]) Q E s := by
  w_top off
  revert X
  k_fill
  intro X
  refine wpAny_call ?_
  k_dflt ktr_enter
  k_steps
  · refine hret _ _ _ _ _ _ _ _ ?_ hy0 hy1 ?_ ?_ (by k_asm) (by k_asm)
    · exact Int.fdiv_nonneg hx (Int.le_of_lt hm0)
    · exact Int.fmod_nonneg hx (Int.le_of_lt hm0)
    · exact Int.fmod_lt_of_pos _ hm0
  · have h1 : (0:Int) ≤ (y * 151 + 7013).fmod 65371 := Int.fmod_nonneg (by omega) (by decide)
    refine hret _ _ _ _ _ _ _ _ hx h1 (Int.fmod_lt_of_pos _ (by decide)) ?_ ?_ (by k_asm) (by k_asm)
    · exact Int.fmod_nonneg (Int.fdiv_nonneg h1 (by decide)) (Int.le_of_lt hm0)
    · exact Int.fmod_lt_of_pos _ hm0
end

set_option maxRecDepth 100000 in
set_option maxHeartbeats 8000000 in
theorem shelf {sl : Addr} {vs : List Value} {ns : List Int}
    (B : Below A₀ base outer h₀) (F : Fr h₀ L s.heap m) (X : (kk.heap_1 w.params).In h₀) (N : News h₀ L s.heap news) (T : Top p loose mean mg mb h₀) (hk : cs.kind = .function)
    (hl : h₀.IsList sl vs.toArray) (hi : IntsAre vs ns) (hlen : ns.length ≤ 63) (hd : dp + 2 < recursionLimit) (hu : un + 100 < cLine)
    (hret : ∀ l x y tx ty n h' tk', 0 ≤ x → 0 ≤ y → y < 65371 → Fr h₀ L h' m → News h₀ L h' ((l, listOf [.int x tx, .int y ty].toArray n) :: news) → (∀ p ∈ news, p.1 ≠ l) → Q (.ref l) { s with heap := h', toks := tk' }) :
    wpAny (model PySem.Challenge.rw_sf0043_01.row.prog w) (ktrTop dp un gd cn cs L a ccd cl outer) (call (.ref 527) [.ref sl]) Q E s := by
  w_top off
  revert X
  k_fill
  intro X
  refine wpAny_call ?_
  k_dflt ktr_enter
  have hl2 := stays_list (Fr.keep (by with_reducible assumption)) hl
  k_steps
  all_goals (
    refine hret _ _ _ _ _ _ _ _ ?_ (Int.fmod_nonneg_of_pos _ (by decide)) (Int.fmod_lt_of_pos _ (by decide)) (by k_asm) (nDrop2 (by k_asm)) ?_
    · first | assumption | decide | omega | fail "weight"
    · first | exact fun p hp => Nat.ne_of_lt (tb_ltOf (And.right (by assumption)) p hp) | exact fun p hp => Nat.ne_of_lt (tb_ltOf (by assumption) p hp))
end

theorem nSwap {h₀ h : Heap} {L : Addr} {q d : Addr × Obj} {news : List (Addr × Obj)} (N : News h₀ L h (q :: d :: news)) : News h₀ L h (d :: q :: news) :=
  nSub N fun p hp => by
    rcases List.mem_cons.mp hp with e | e
    · exact e ▸ .tail _ (.head _)
    · rcases List.mem_cons.mp e with e | e
      · exact e ▸ .head _
      · exact .tail _ (.tail _ e)
/-- two entries of one address bear one object -/
theorem nSame {h₀ h : Heap} {L : Addr} {news : List (Addr × Obj)} (N : News h₀ L h news) {p q : Addr × Obj} (hp : p ∈ news) (hq : q ∈ news) (e : p.1 = q.1) : p.2 = q.2 := by
  have h1 := (N p hp).1
  have h2 := (N q hq).1
  rw [e, h2] at h1
  exact (Option.some.inj h1).symm

theorem map3_init {m₀ : Str → Option Value} {a b c : Str} {v : Value} (h : m₀ c = some v) : m₀ = fun y => if y = a then m₀ a else if y = b then m₀ b else if y = c then some v else m₀ y := by
  funext y
  by_cases h1 : y = a
  · subst h1; simp
  by_cases h2 : y = b
  · subst h2; simp [h1]
  by_cases h3 : y = c
  · subst h3; simp [h1, h2, h]
  simp [h1, h2, h3]
theorem map3_turn {m₀ : Str → Option Value} {a b c : Str} {ut uh ua ub uc : Option Value} {v : Value} (hab : a ≠ b) (hac : a ≠ c) (hbc : b ≠ c) :
    (fun y => if y = c then uc else if y = b then ub else if y = a then ua else if y = a then ut else if y = b then uh else if y = c then some v else m₀ y) = fun y => if y = a then ua else if y = b then ub else if y = c then uc else m₀ y := by
  funext y
  by_cases h1 : y = a
  · subst h1; simp [hab, hac]
  by_cases h2 : y = b
  · subst h2; simp [h1, hbc]
  by_cases h3 : y = c
  · subst h3; simp [h1, h2]
  simp [h1, h2, h3]
theorem lk2 {z a b : Str} {u v : Value} (h1 : z ≠ a) (h2 : z ≠ b) : List.lookup z [(a, u), (b, v)] = none := by
  simp [List.lookup, beq_false_of_ne h1, beq_false_of_ne h2]
theorem lk1 {z a : Str} {u : Value} (h1 : z ≠ a) : List.lookup z [(a, u)] = none := by
  simp [List.lookup, beq_false_of_ne h1]

/-- the chain of blocks, calls or rows that the law builds, as the ledger bears it -/
inductive ChainIn (news : List (Addr × Obj)) : Value → List Str → Prop where
  | nil {a : Addr} {t u : Tok} {n : Nat} : (a, ({ cls := .type "tuple", data := .seq #[.str (Str.ofString "sym") t, .str (Str.ofString "a") u] n } : Obj)) ∈ news → ChainIn news (.ref a) []
  | cons {a b : Addr} {t u : Tok} {n k : Nat} {x : Str} {v : Value} {xs : List Str} : (a, ({ cls := .type "tuple", data := .seq #[.str (Str.ofString "expr") t, .str x u, .ref b] n } : Obj)) ∈ news →
      (b, ({ cls := .type "tuple", data := .seq #[v] k } : Obj)) ∈ news → ChainIn news v xs → ChainIn news (.ref a) (x :: xs)
theorem ChainIn.mono {news news' : List (Addr × Obj)} {v : Value} {xs : List Str} (h : ChainIn news v xs) (hs : ∀ p ∈ news, p ∈ news') : ChainIn news' v xs := by
  induction h with
  | nil hm => exact .nil (hs _ hm)
  | cons h1 h2 _ ih => exact .cons (hs _ h1) (hs _ h2) ih
def Heads (xs : List Str) : Prop := ∀ x ∈ xs, x = Str.ofString "block" ∨ x = Str.ofString "call" ∨ x = Str.ofString "tuple"
theorem Heads.nil : Heads [] := fun _ h => nomatch h
theorem Heads.cons {x : Str} {xs : List Str} (hx : x = Str.ofString "block" ∨ x = Str.ofString "call" ∨ x = Str.ofString "tuple") (h : Heads xs) : Heads (x :: xs) := fun y hy => by
  rcases List.mem_cons.mp hy with e | e
  · exact e ▸ hx
  · exact h y e

section
variable {prog : Program} {w : World} {A : Around} {E : Value → Shared → Prop} {s : Shared} {env : Env} {h₀ : Heap} {x : Str} {body : List Stmt} {Q : Flow → Shared → Prop}
def RgEnd (h₀ : Heap) (L : Addr) (J : (Str → Option Value) → List (Addr × Obj) → Prop) (own : List (Addr × Obj)) (s₁ s₂ : Shared) : Prop := InvEndG h₀ L J own s₁ s₂
def RgPost (h₀ : Heap) (L : Addr) (J : (Str → Option Value) → List (Addr × Obj) → Prop) (own : List (Addr × Obj)) (s₁ : Shared) (Q : Flow → Shared → Prop) (f : Flow) (s₂ : Shared) : Prop :=
  match f with
  | .ret v => Q (.ret v) s₂
  | .brk => Q .next s₂
  | _ => RgEnd h₀ L J own s₁ s₂
theorem RgEnd.intro {L : Addr} {J : (Str → Option Value) → List (Addr × Obj) → Prop} {m' : Str → Option Value} {own news' : List (Addr × Obj)} (nx : List (Addr × Obj)) {s₁ : Shared} {h' : Heap} {tk : Nat} (F : Fr h₀ L h' m') (N : News h₀ L h' news')
    (hj : J m' nx) (ha : OwnOff own (nx.map (·.1))) (hn : ∀ p ∈ nx, p ∈ news') (ho : ∀ p ∈ own, p ∈ news') : RgEnd h₀ L J own s₁ { s₁ with heap := h', toks := tk } := ⟨h', tk, m', news', nx, rfl, F, N, hn, ho, ha, hj⟩
theorem rg_inv {r : Addr} {a₀ b₀ : Int} {t₀ u₀ v₀ : Tok} {n : Nat} {m₀ : Str → Option Value} {news : List (Addr × Obj)} (J : (Str → Option Value) → Nat → (Str → Option Value) → List (Addr × Obj) → Prop)
    (hh : A.handled = none) (hr : IsRange s.heap r a₀ b₀ 1 t₀ u₀ v₀) (hsmall : Builtin.Range.small a₀ b₀ 1 = true) (hsz : Builtin.Range.rangeSize a₀ b₀ 1 = (n : Int)) (F : Fr h₀ env.locals s.heap m₀) (N : News h₀ env.locals s.heap news) (hj : J m₀ 0 m₀ news)
    (turn : ∀ (i : Nat) (t : Tok) m₁ nx h tk own, i < n → OwnOff own (nx.map (·.1)) → J m₀ i m₁ nx → Fr h₀ env.locals h (fun y => if y = x then some (.int (a₀ + (i : Int)) t) else m₁ y) → News h₀ env.locals h (nx ++ own) →
      wpAny (model prog w) A (execs body env) (RgPost h₀ env.locals (J m₀ (i + 1)) own { s with heap := h, toks := tk } Q) E { s with heap := h, toks := tk })
    (done : ∀ m₁ nx h tk, J m₀ n m₁ nx → Fr h₀ env.locals h m₁ → News h₀ env.locals h nx → Q .next { s with heap := h, toks := tk }) :
    wpAny (model prog w) A (pyIter (.ref r)) (fun it s₂ => LoopAtV prog w A h₀ env x body Q E it s₂) E s := by
  refine wpAny_pyIter_range hr hsmall ?_
  have W : Walks prog w A s.heap.objs.size [s.heap.objs.size] [s.heap.objs.size] n (fun i v => i < n ∧ ∃ t, v = .int (a₀ + i * 1) t)
      (fun i h => IsRangeIter h s.heap.objs.size (a₀ + (i : Nat) * 1) ((n : Int) - (i : Nat)) 1) := (Walks.range hh _ a₀ 1 n).bound
  refine kdr_loop (J m₀) W (fun _ h => h) (fun _ h => h) ?_ ?_ ?_ ?_ (by show IsRangeIter _ _ _ _ _; rw [hsz]; simpa using Heap.get?_push_size _ rfl) (F.push _) (fun p hp => ⟨Heap.get?_push_of_some _ (N p hp).1, (N p hp).2⟩) hj ?_ ?_
  · intro i h hi b hb
    rw [List.mem_singleton.mp hb]
    exact ⟨_, hi⟩
  · intro hm
    exact absurd F.ns.lt ((List.mem_singleton.mp hm) ▸ Nat.lt_irrefl _)
  · intro b hb
    rw [List.mem_singleton.mp hb]
    exact next_is_new F
  · intro p hp hI
    exact absurd (Heap.lt_size (N p hp).1) ((List.mem_singleton.mp hI) ▸ Nat.lt_irrefl _)
  · rintro i v m₁ nx h tk own hi ⟨_, t, rfl⟩ hoff hJ F₁ N₁
    have e1 : a₀ + (i : Int) * 1 = a₀ + (i : Int) := by omega
    rw [e1] at F₁
    exact wpAny_mono (turn i t m₁ nx h tk own hi hoff hJ F₁ N₁) (fun f s₂ p => by cases f <;> exact p) fun _ _ e => e
  · intro m₁ nx h tk hJ F₁ N₁
    exact done m₁ nx h tk hJ F₁ N₁
end

section
variable {prog : Program} {w : World} {A : Around} {E : Value → Shared → Prop} {Q : Flow → Shared → Prop} {s : Shared} {env : Env} {h₀ : Heap} {L : Addr}
/-- a while whose test is false at once -/
theorem while_once {test : Expr} {body : List Stmt} {pos : Pos} {m : Str → Option Value} {news : List (Addr × Obj)} (F : Fr h₀ L s.heap m) (N : News h₀ L s.heap news)
    (turn : ∀ h₁ tk₁, Fr h₀ L h₁ m → News h₀ L h₁ news → wpAny (model prog w) A (isTrue test env (eval test env)) (fun b s₂ => b = false ∧ Q .next s₂) E { s with heap := h₁, toks := tk₁ })
    (hE : PassesOwn (model prog w) A env E := by passes_own) : wpAny (model prog w) A (exec (.While test body [] pos) env) Q E s := by
  refine While_inv2 (fun _ m₁ nx => m₁ = m ∧ nx = news) (n₀ := 0) F N ⟨rfl, rfl⟩ ?_ hE
  rintro n m₁ nx h₁ tk₁ F₁ N₁ ⟨rfl, rfl⟩
  refine wpAny_mono (turn h₁ tk₁ F₁ N₁) (fun b s₂ q => ?_) fun _ _ x => x
  obtain ⟨rfl, q⟩ := q
  exact q
end

inductive StrVals : List Value → List Str → Prop
  | nil : StrVals [] []
  | cons {x : Str} {t : Tok} {vs : List Value} {ys : List Str} : StrVals vs ys → StrVals (.str x t :: vs) (x :: ys)
theorem StrVals.reads {h : Heap} {vs : List Value} {ys : List Str} (S : StrVals vs ys) : ∃ as, ReadsAll h vs (ys.map PyData.str) as := by
  induction S with
  | nil => exact ⟨_, .nil⟩
  | cons _ ih => obtain ⟨as, r⟩ := ih; exact ⟨_, .cons (.str _ _) r⟩
theorem strs_lay : ∀ {ys : List Str}, ys.all PyData.strOk = true → PyData.canLayAll0 (ys.map PyData.str) = true
  | [], _ => rfl
  | y :: ys, h => by
    have h' : PyData.strOk y = true ∧ ys.all PyData.strOk = true := by simpa using h
    simp only [List.map_cons, PyData.canLayAll0, PyData.canLay0, h'.1, strs_lay h'.2, Bool.and_self]
theorem strs_any : ∀ (ys : List Str) (x : Str), ((ys.map PyData.str).any fun y => PyData.eqv y (.str x)) = ys.any (· == x)
  | [], _ => rfl
  | y :: ys, x => by
    rw [List.map_cons, List.any_cons, List.any_cons, strs_any ys x]
    rfl
section
variable {prog : Program} {w : World} {A : Around} {E : Value → Shared → Prop} {Q : Value → Shared → Prop} {s : Shared} {h₀ : Heap} {L a : Addr} {m : Str → Option Value} {K : Frag} {news : List (Addr × Obj)}
theorem in_strTup {o : Obj} {vs : List Value} {n : Nat} {ys : List Str} {x : Str} {t : Tok} {r : Bool} (ho : s.heap.get? a = some o) (hc : o.cls = .type "tuple") (hd : o.data = .seq vs.toArray n) (hs : StrVals vs ys)
    (hok : ys.all PyData.strOk = true) (hx : PyData.strOk x = true) (hu : A.units + 1 < cLine) (hr : ys.any (· == x) = r) (h : Q (.bool r) s) : wpAny (model prog w) A (compareOp .In (.str x t) (.ref a)) Q E s := by
  obtain ⟨as, ra⟩ := hs.reads (h := s.heap)
  refine SeqAt.in_tuple_reads (reads_tuple_at ho hc hd (by simpa using ra)) (Reads.str x t) (strs_lay hok) hx ?_ (by rw [strs_any, hr]; exact h)
  have : (PyData.str x).depth = 0 := rfl
  rw [this, Nat.min_zero]
  exact hu
theorem in_topStrs {vs : List Value} {dd : Option Addr} {sl : Array (Option Value)} {n : Nat} {ys : List Str} {x : Str} {t : Tok} {r : Bool} (F : Fr h₀ L s.heap m) (X₀ : K.In h₀) (hl : K.lookup a = some ⟨.type "tuple", dd, .seq vs.toArray n, sl⟩) (hs : StrVals vs ys)
    (hok : ys.all PyData.strOk = true) (hx : PyData.strOk x = true) (hu : A.units + 1 < cLine) (hr : ys.any (· == x) = r) (h : Q (.bool r) s) : wpAny (model prog w) A (compareOp .In (.str x t) (.ref a)) Q E s :=
  in_strTup (X₀.keeps F.keep _ _ hl) rfl rfl hs hok hx hu hr h
theorem in_newStrs {vs : List Value} {n : Nat} {ys : List Str} {x : Str} {t : Tok} {r : Bool} (N : News h₀ L s.heap news) (hl : (a, ({ cls := .type "tuple", data := .seq vs.toArray n } : Obj)) ∈ news) (hs : StrVals vs ys)
    (hok : ys.all PyData.strOk = true) (hx : PyData.strOk x = true) (hu : A.units + 1 < cLine) (hr : ys.any (· == x) = r) (h : Q (.bool r) s) : wpAny (model prog w) A (compareOp .In (.str x t) (.ref a)) Q E s :=
  in_strTup (N _ hl).1 rfl rfl hs hok hx hu hr h
end
theorem memL {α : Type} {x : α} {l : List α} (h : x ∈ l) : List.Mem x l := h
theorem nThin {h₀ h : Heap} {L : Addr} {news : List (Addr × Obj)} (pre : List (Addr × Obj)) (N : News h₀ L h (pre ++ news)) : News h₀ L h news := nSub N fun _ hp => List.mem_append.mpr (.inr hp)

abbrev tupO (vs : List Value) (n : Nat) : Obj := { cls := .type "tuple", data := .seq vs.toArray n }
section
variable {prog : Program} {w : World} {A : Around} {E : Value → Shared → Prop} {Q : Flow → Shared → Prop} {s : Shared} {env : Env} {h₀ : Heap} {L : Addr}
def WlEnd (h₀ : Heap) (L : Addr) (s : Shared) (J : Nat → (Str → Option Value) → List (Addr × Obj) → Prop) (n : Nat) (s₃ : Shared) : Prop :=
  ∃ h' tk m₂ news₂ n', s₃ = { s with heap := h', toks := tk } ∧ Fr h₀ L h' m₂ ∧ News h₀ L h' news₂ ∧ n' < n ∧ J n' m₂ news₂
def WlPost (h₀ : Heap) (L : Addr) (s : Shared) (J : Nat → (Str → Option Value) → List (Addr × Obj) → Prop) (Q : Flow → Shared → Prop) (n : Nat) (f : Flow) (s₃ : Shared) : Prop :=
  match f with
  | .ret v => Q (.ret v) s₃
  | .brk => Q .next s₃
  | _ => WlEnd h₀ L s J n s₃
theorem wl_inv {test : Expr} {body : List Stmt} {pos : Pos} {m₀ : Str → Option Value} {news : List (Addr × Obj)} (J : (Str → Option Value) → Nat → (Str → Option Value) → List (Addr × Obj) → Prop) (n₀ : Nat)
    (F : Fr h₀ L s.heap m₀) (N : News h₀ L s.heap news) (hJ : J m₀ n₀ m₀ news)
    (turn : ∀ n m₁ nx h tk, J m₀ n m₁ nx → Fr h₀ L h m₁ → News h₀ L h nx →
      wpAny (model prog w) A (isTrue test env (eval test env)) (fun b s₂ =>
        if b = true then wpAny (model prog w) A (execs body env) (WlPost h₀ L s (J m₀) Q n) E s₂ else Q .next s₂) E { s with heap := h, toks := tk })
    (hE : PassesOwn (model prog w) A env E := by passes_own) :
    wpAny (model prog w) A (exec (.While test body [] pos) env) Q E s := by
  refine While_inv2 (J m₀) F N hJ ?_ hE
  intro n m₁ nx h tk F₁ N₁ hJ₁
  refine wpAny_mono (turn n m₁ nx h tk hJ₁ F₁ N₁) (fun b s₂ p => ?_) fun _ _ x => x
  cases b with
  | false => simpa using p
  | true =>
    simp only [if_true] at p ⊢
    refine wpAny_mono p (fun f s₃ q => ?_) fun _ _ x => x
    cases f <;> exact q
end
theorem mapW {m' m₀ : Str → Option Value} {stored : List Str} {y : Str} {v : Value} (h1 : m' y = some v) (h2 : ∀ z, z ≠ y → stored.contains z = false → m' z = m₀ z) :
    m' = fun z => if z = y then some v else if stored.contains z = true then m' z else m₀ z := by
  funext z
  by_cases h : z = y
  · subst h; simp [h1]
  · simp only [if_neg h]
    cases h3 : stored.contains z with
    | true => simp
    | false => simp only [Bool.false_eq_true, if_false]; exact h2 z h h3

section
variable {prog : Program} {w : World} {A : Around} {E : Value → Shared → Prop} {Q : Value → Shared → Prop} {s : Shared} {h₀ : Heap} {L a b : Addr} {m : Str → Option Value} {news news' : List (Addr × Obj)}
theorem ne_nil_true {us : List Value} {n nb : Nat} (N : News h₀ L s.heap news) (h1 : (a, listOf us.toArray n) ∈ news) (h2 : (b, listOf [].toArray nb) ∈ news) (hus : us ≠ []) (hu : A.units < cLine) (h : Q (.bool true) s) :
    wpAny (model prog w) A (compareOp .NotEq (.ref a) (.ref b)) Q E s := by
  refine EqBoolInt.of_rcne (SeqAt.RcNeAt.lists_lengths (News.isList N h1) (News.isList N h2) ?_ hu) h
  cases us with
  | nil => exact absurd rfl hus
  | cons x r => simp
theorem ne_nil_false {n nb : Nat} (N : News h₀ L s.heap news) (h1 : (a, listOf [].toArray n) ∈ news) (h2 : (b, listOf [].toArray nb) ∈ news) (hu : A.units < cLine) (h : Q (.bool false) s) :
    wpAny (model prog w) A (compareOp .NotEq (.ref a) (.ref b)) Q E s := by
  refine EqBoolInt.of_rcne (SeqAt.RcNeAt.lists (e := fun _ => true) (News.isList N h1) (News.isList N h2) rfl hu ?_) (by simpa using h)
  intro j h1 _
  exact absurd h1 (Nat.not_lt_zero _)
theorem pop_snoc {us : List Value} {y : Value} {n : Nat} (F : Fr h₀ L s.heap m) (N : News h₀ L s.heap news) (U : Upd a (listOf (us ++ [y]).toArray n) (listOf us.toArray (n + 1)) news news') (hz : us.length < 10000)
    (h : ∀ h', Fr h₀ L h' m → News h₀ L h' news' → Q y { s with heap := h' }) : wpAny (model prog w) A (call (.builtin "list.pop") [.ref a]) Q E s := by
  refine kl_pop F N (p := us) (y := y) ?_ U ?_ h
  · simpa using kpa_last y us
  · rw [sizeLine_eq]; simp; omega
end
end Mine
end
section
open PySem PySem.W PySem.Spec PySem.Calls PyProof.Rows
namespace Mine
def ChainJ (l : Addr) (n : Nat) (m₀ : Str → Option Value) (i : Nat) (m₁ : Str → Option Value) (nx : List (Addr × Obj)) : Prop :=
  ∃ (v : Value) (hs : List Str) (x y : Int) (tx ty : Tok) (tl : List (Addr × Obj)) (ut uh : Option Value), nx = (l, listOf [.int x tx, .int y ty].toArray n) :: tl ∧ (∀ p ∈ tl, p.1 ≠ l) ∧ 0 ≤ x ∧ 0 ≤ y ∧ y < 65371 ∧ hs.length = i ∧ Heads hs ∧ ChainIn tl v hs ∧
    m₁ = fun z => if z = Str.ofString "turn" then ut else if z = Str.ofString "head" then uh else if z = Str.ofString "found" then some v else m₀ z

theorem chain_turn {g h' : Heap} {L l D1 D2 l2 : Addr} {o2 : Obj} {n i k1 k2 : Nat} {m₀ m' : Str → Option Value} {own tl : List (Addr × Obj)} {s₁ : Shared} {Q : Flow → Shared → Prop} {tk : Nat} {t1 t2 tx ty : Tok} {x y x0 y0 : Int} {tx0 ty0 : Tok} {v : Value} {hd : Str} {hs : List Str} {ut uh : Option Value}
    (F : Fr g L h' m') (N : News g L h' ((D2, tupO [.str (Str.ofString "expr") t1, .str hd t2, .ref D1] k1) :: (D1, tupO [v] k2) :: (l, listOf [.int x tx, .int y ty].toArray n) :: (l2, o2) :: (tl ++ own)))
    (lt2 : D1 < D2 ∧ l < D2 ∧ l2 < D2 ∧ AllLt D2 (tl ++ own)) (lt1 : l < D1 ∧ l2 < D1 ∧ AllLt D1 (tl ++ own)) (hx : 0 ≤ x) (hy : 0 ≤ y) (hy1 : y < 65371) (hlen : hs.length = i) (hH : Heads hs) (hC : ChainIn tl v hs) (hh : hd = Str.ofString "block" ∨ hd = Str.ofString "call" ∨ hd = Str.ofString "tuple")
    (hne : ∀ p ∈ tl, p.1 ≠ l) (hoff : OwnOff own (List.map (fun x => x.fst) ((l, listOf [.int x0 tx0, .int y0 ty0].toArray n) :: tl)))
    (hm : m' = fun z => if z = Str.ofString "turn" then ut else if z = Str.ofString "head" then uh else if z = Str.ofString "found" then some (.ref D2) else m₀ z) :
    RgPost g L (ChainJ l n m₀ (i + 1)) own s₁ Q .next { s₁ with heap := h', toks := tk } := by
  have sub : ∀ p ∈ (l, listOf [.int x tx, .int y ty].toArray n) :: (D2, tupO [.str (Str.ofString "expr") t1, .str hd t2, .ref D1] k1) :: (D1, tupO [v] k2) :: tl, p ∈ ((D2, tupO [.str (Str.ofString "expr") t1, .str hd t2, .ref D1] k1) :: (D1, tupO [v] k2) :: (l, listOf [.int x tx, .int y ty].toArray n) :: (l2, o2) :: (tl ++ own)) := by
    intro p hp
    simp only [List.mem_cons, List.mem_append] at hp ⊢
    rcases hp with e | e | e | e
    · exact .inr (.inr (.inl e))
    · exact .inl e
    · exact .inr (.inl e)
    · exact .inr (.inr (.inr (.inr (.inl e))))
  refine RgEnd.intro _ F N ?_ ?_ sub ?_
  · refine ⟨.ref D2, hd :: hs, x, y, tx, ty, _, ut, uh, rfl, ?_, hx, hy, hy1, by rw [List.length_cons, hlen], Heads.cons hh hH, ChainIn.cons (List.Mem.head _) (List.Mem.tail _ (List.Mem.head _)) (ChainIn.mono hC fun p hp => List.Mem.tail _ (List.Mem.tail _ hp)), hm⟩
    intro p hp
    rcases List.mem_cons.mp hp with e | hp
    · rw [e]; exact Nat.ne_of_gt lt2.2.1
    rcases List.mem_cons.mp hp with e | hp
    · rw [e]; exact Nat.ne_of_gt lt1.1
    exact hne p hp
  · intro p hp b hb
    simp only [List.map_cons, List.mem_cons, List.mem_map] at hb
    rcases hb with e | e | e | ⟨q, hq, e⟩
    · rw [e]; exact hoff p hp l (List.Mem.head _)
    · rw [e]; exact Nat.ne_of_lt (tb_ltOf lt2.2.2.2 p (List.mem_append.mpr (.inr hp)))
    · rw [e]; exact Nat.ne_of_lt (tb_ltOf lt1.2.2 p (List.mem_append.mpr (.inr hp)))
    · exact hoff p hp b (List.Mem.tail _ (List.mem_map.mpr ⟨q, hq, e⟩))
  · intro p hp
    simp only [List.mem_cons, List.mem_append]
    exact .inr (.inr (.inr (.inr (.inr hp))))

section
local macro_rules | `(tactic| walk_at "pyIter ref") => `(tactic| k_extra "my iter")
local macro_rules | `(tactic| walk_at "call ref") => `(tactic| k_extra "my call")
variable {w : World} {p : Program} {loose : List Str} {mean : ExcName → Option Value} {mg mb : Str → Option Value} {dp un : Nat} {gd : Option (List Code)} {cn : Str} {cs : Scope} {a : Addr} {ccd : Value} {cl : List (Str × Addr)} {outer : List Env} {A₀ : Around} {base h₀ : Heap} {L : Addr} {m : Str → Option Value} {news : List (Addr × Obj)} {s : Shared}
  {Q E : Value → Shared → Prop}
set_option maxRecDepth 100000 in
set_option maxHeartbeats 8000000 in
theorem chain {l : Addr} {x y : Int} {tx ty : Tok} {n : Nat} {k : Int} {tm : Tok}
    (B : Below A₀ base outer h₀) (F : Fr h₀ L s.heap m) (X : (kk.heap_1 w.params).In h₀) (N : News h₀ L s.heap [(l, listOf [.int x tx, .int y ty].toArray n)]) (T : Top p loose mean mg mb h₀) (hk : cs.kind = .function)
    (hx : 0 ≤ x) (hy0 : 0 ≤ y) (hy1 : y < 65371) (hk0 : 0 ≤ k) (hk1 : k < 1000) (hd : dp + 4 < recursionLimit) (hu : un + 200 < cLine)
    (hret : ∀ v hs x' y' tx' ty' tl h' tk', 0 ≤ x' → 0 ≤ y' → y' < 65371 → (hs.length : Int) = k → Heads hs → ChainIn tl v hs → (∀ p ∈ tl, p.1 ≠ l) → Fr h₀ L h' m → News h₀ L h' ((l, listOf [.int x' tx', .int y' ty'].toArray n) :: tl) → Q v { s with heap := h', toks := tk' }) :
    wpAny (model PySem.Challenge.rw_sf0043_01.row.prog w) (ktrTop dp un gd cn cs L a ccd cl outer) (call (.ref 548) [.ref l, .int k tm]) Q E s := by
  w_top off
  revert X
  k_fill
  intro X
  refine wpAny_call ?_
  k_dflt ktr_enter
  k_with_none
  k_with "my iter" => k_dflt (
    (rename IsRange _ _ _ _ _ _ _ _ => hR); (rename Fr _ _ _ _ => hF); (rename News _ _ _ _ => hN);
    with_unfolding_all refine' rg_inv (ChainJ l n) rfl hR (small_one (by omega) (by omega) (by omega) (by omega)) (rangeSize_nat _ _) hF (nSwap hN) ?init ?turn ?done;
    walk_say "P1";
    case init => (
      walk_say "P2"
      unfold ChainJ
      refine ⟨_, [], x, y, tx, ty, _, _, _, rfl, ?_, hx, hy0, hy1, rfl, Heads.nil, ChainIn.nil (List.Mem.head _), map3_init (by with_unfolding_all rfl)⟩
      intro p hp
      have e := List.mem_singleton.mp hp
      rw [e]
      exact Nat.ne_of_gt (by assumption))
    walk_say "P3";
    case' turn => (
      walk_say "P4"
      intro i t m₁ nx h tk own hi hoff hJ F1 N1
      unfold ChainJ at hJ
      obtain ⟨v, hs, x', y', tx', ty', tl, ut, uh, rfl, hne, hx', hy0', hy1', hlen, hH, hC, rfl⟩ := hJ
      walk_say "P5"
      clear hF hN
      (try k_fold))
    case' done => (
      intro m₁ nx h tk hJ F1 N1
      unfold ChainJ at hJ
      obtain ⟨v, hs, x', y', tx', ty', tl, ut, uh, rfl, hne, hx', hy0', hy1', hlen, hH, hC, rfl⟩ := hJ
      clear hF hN
      (try k_fold)))
  k_with "my call" => k_dflt (
    (rename News _ _ _ _ => hN); (rename ∀ q : Addr × Obj, q ∈ (l, _) :: tl ++ own → q.1 < _ => hlt);
    (
      refine' reach (l := l) (x := x') (y := y') (tx := tx') (ty := ty') (n := n) (news := _ :: (tl ++ own)) ?k1 ?k2 ?k3 ?k4 ?k5 ?k6 ?k7 hx' hy0' hy1' ?k8 ?k9 ?k10 ?k11 ?_
      (case k1 => k_asm)
      (case k2 => k_asm)
      (case k3 => k_asm)
      (case k4 => (have hN2 := nSwap hN; exact hN2))
      (case k6 => k_asm)
      (case k7 => exact rfl)
      (case k8 => decide)
      (case k9 => decide)
      (case k10 => ktr_room)
      (case k11 => ktr_units));
    case k5 => (
      intro q hq
      rcases List.mem_cons.mp hq with e | e
      · rw [e]
        exact Nat.ne_of_gt (hlt _ (List.Mem.head _))
      · rcases List.mem_append.mp e with e | e
        · exact hne _ e
        · exact hoff _ e _ (List.Mem.head _))
    intro r x2 y2 tr tx2 ty2 h2 tk2 hx2 hy2 hy3 hr0 hr1 F2 N2;
    clear hN;
    have hr : r = 0 ∨ r = 1 ∨ r = 2 := by omega;
    rcases hr with rfl | rfl | rfl;
    (all_goals (try k_fold)))
  k_steps
  k_with_none
  · exact hret _ _ _ _ _ _ _ _ _ hx' hy0' hy1' (by omega) hH hC hne (by k_asm) (by k_asm)
  · exact chain_turn (by k_asm) (by k_asm) (by assumption) (by assumption) hx2 hy2 hy3 hlen hH hC (.inl rfl) hne hoff (map3_turn (by decide +kernel) (by decide +kernel) (by decide +kernel))
  · exact chain_turn (by k_asm) (by k_asm) (by assumption) (by assumption) hx2 hy2 hy3 hlen hH hC (.inr (.inl rfl)) hne hoff (map3_turn (by decide +kernel) (by decide +kernel) (by decide +kernel))
  · exact chain_turn (by k_asm) (by k_asm) (by assumption) (by assumption) hx2 hy2 hy3 hlen hH hC (.inr (.inr rfl)) hne hoff (map3_turn (by decide +kernel) (by decide +kernel) (by decide +kernel))
end
end Mine
end
section
open PySem PySem.W PySem.Spec PySem.Calls PyProof.Rows
namespace Mine
section
local macro_rules | `(tactic| k_mem) => `(tactic| (refine memL ?_; ktr_member))
local macro_rules | `(tactic| walk_at "compareOp In str ref") => `(tactic| (k_dflt (refine' in_topStrs ?F ?X ?l ?s ?k1 ?k2 ?u ?r ?_; (case F => k_asm); (case X => k_asm); (case l => k_is); (case s => repeat constructor); (case k1 => decide +kernel); (case k2 => decide +kernel); (case u => ktr_units); (case r => first | (refine (?_ : _ = false); decide +kernel) | (refine (?_ : _ = true); decide +kernel)); k_whole)))
local macro_rules | `(tactic| walk_at "compareOp In str ref") => `(tactic| (k_dflt (refine' in_newStrs ?N ?l ?s ?k1 ?k2 ?u ?r ?_; (case N => k_asm); (case l => k_mem); (case s => repeat constructor); (case k1 => decide +kernel); (case k2 => decide +kernel); (case u => ktr_units); (case r => first | (refine (?_ : _ = false); decide +kernel) | (refine (?_ : _ = true); decide +kernel)); k_whole)))
local macro_rules | `(tactic| walk_at "exec While BoolOp cons nil") => `(tactic| k_extra "my while")
local macro_rules | `(tactic| k_room) => `(tactic| ktr_room)
variable {w : World} {p : Program} {loose : List Str} {mean : ExcName → Option Value} {mg mb : Str → Option Value} {dp un : Nat} {gd : Option (List Code)} {cn : Str} {cs : Scope} {a : Addr} {ccd : Value} {cl : List (Str × Addr)} {outer : List Env} {A₀ : Around} {base h₀ : Heap} {L : Addr} {m : Str → Option Value} {news : List (Addr × Obj)} {s : Shared}
  {Q E : Value → Shared → Prop}
set_option maxRecDepth 100000 in
set_option maxHeartbeats 8000000 in
theorem settled {se sd : Addr} {d b : Addr} {t u : Tok} {n n' : Nat} {x : Str} {v : Value}
    (B : Below A₀ base outer h₀) (F : Fr h₀ L s.heap m) (X : (kk.heap_1 w.params).In h₀) (N : News h₀ L s.heap news) (T : Top p loose mean mg mb h₀) (hk : cs.kind = .function)
    (h1 : (se, instObj 508 sd) ∈ news) (h2 : (d, ({ cls := .type "tuple", data := .seq #[.str (Str.ofString "expr") t, .str x u, .ref b] n } : Obj)) ∈ news) (h3 : (b, ({ cls := .type "tuple", data := .seq #[v] n' } : Obj)) ∈ news)
    (hx : x = Str.ofString "block" ∨ x = Str.ofString "call" ∨ x = Str.ofString "tuple") (hd : dp + 10 < recursionLimit) (hu : un + 400 < cLine)
    (hret : ∀ h' tk', Fr h₀ L h' m → News h₀ L h' news → Q (.ref d) { s with heap := h', toks := tk' }) :
    wpAny (model PySem.Challenge.rw_sf0043_01.row.prog w) (ktrTop dp un gd cn cs L a ccd cl outer) (call (.ref 498) [.ref se, .ref d]) Q E s := by
  w_top off
  revert X
  k_fill
  intro X
  rcases hx with rfl | rfl | rfl
  all_goals (
  refine wpAny_call ?_
  k_dflt ktr_enter
  k_with_none
  k_with "my while" => k_dflt (
    (rename Fr _ _ _ _ => hF); (rename News _ _ _ _ => hN);
    with_unfolding_all refine' while_once hF hN ?_;
    intro h1 tk1 F1 N1;
    clear hF hN;
    (try k_fold))
  k_steps
  k_with_none
  exact hret _ _ (by k_asm) (nSub (by k_asm) (fun p hp => by simp only [List.mem_cons, hp, or_true])))

set_option maxRecDepth 100000 in
set_option maxHeartbeats 8000000 in
theorem settled_leaf {se sd : Addr} {d : Addr} {t u : Tok} {n : Nat}
    (B : Below A₀ base outer h₀) (F : Fr h₀ L s.heap m) (X : (kk.heap_1 w.params).In h₀) (N : News h₀ L s.heap news) (T : Top p loose mean mg mb h₀) (hk : cs.kind = .function)
    (h1 : (se, instObj 508 sd) ∈ news) (h2 : (d, ({ cls := .type "tuple", data := .seq #[.str (Str.ofString "sym") t, .str (Str.ofString "a") u] n } : Obj)) ∈ news)
    (hd : dp + 10 < recursionLimit) (hu : un + 400 < cLine)
    (hret : ∀ h' tk', Fr h₀ L h' m → News h₀ L h' news → Q (.ref d) { s with heap := h', toks := tk' }) :
    wpAny (model PySem.Challenge.rw_sf0043_01.row.prog w) (ktrTop dp un gd cn cs L a ccd cl outer) (call (.ref 498) [.ref se, .ref d]) Q E s := by
  w_top off
  revert X
  k_fill
  intro X
  refine wpAny_call ?_
  k_dflt ktr_enter
  k_with_none
  k_with "my while" => k_dflt (
    (rename Fr _ _ _ _ => hF); (rename News _ _ _ _ => hN);
    with_unfolding_all refine' while_once hF hN ?_;
    intro h1 tk1 F1 N1;
    clear hF hN;
    (try k_fold))
  k_steps
  k_with_none
  exact hret _ _ (by k_asm) (by k_asm)
end
end Mine
end
section
set_option maxRecDepth 100000
open PySem PySem.W PySem.Spec PySem.Calls PyProof.Rows Builtin Builtin.ObjectAttr
namespace Mine
abbrev excO (C t : Addr) (dx : Option Addr) : Obj := { cls := .ref C, dict := dx, data := .fields #[.ref t, .none, .none, .none, .bool false, .none] }
section
variable {prog : Program} {w : World} {A : Around} {R : Result → Shared → Prop} {E : Value → Shared → Prop} {h : Heap} {g : Array GenState} {d : Drawn} {t : Nat} {os : OsState}
variable {nm q : Str} {C N : Addr} {bs bm bmN : List Value} {hdct : Bool} {sn : List Str} {sub : List Value} {ab : Bool} {col : Option Bool} {dd : Option Addr} {k0 k1 k2 k3 k5 : Option Value} {B newId inN : String}
theorem exc_new_own (Fn : ExcBaseFacts B newId inN bmN) (hB : bm.contains (.type B) = true) (hA : bm.contains (.type "AttributeError") = false) (hN : bm.contains (.type "NameError") = false) {rest : List Value}
    (hC : h.get? C = some (excClassObj nm q C N bs bm hdct sn sub ab col dd k0 k1 k2 k3 k5 newId))
    (hq : R (.ok (.ret (.ref (h.objs.size + 1)))) ⟨(h.push (tupO rest 0)).push (excO C h.objs.size none), g, d, t, os⟩) (hrest : rest.length ≤ sizeLine) :
    codeAny (model prog w) A (.builtin newId ⟨.ref C :: rest, []⟩) R ⟨h, g, d, t, os⟩ := by
  have hends := Fn.ends
  have c1 : (Value.ref C :: bm).contains (.type B) = true := by rw [List.contains_cons, hB, Bool.or_true]
  have c2 : (Value.ref C :: bm).contains (.type "AttributeError") = false := by rw [List.contains_cons, hA]; rfl
  have c3 : (Value.ref C :: bm).contains (.type "NameError") = false := by rw [List.contains_cons, hN]; rfl
  refine codeAny_builtinAt Fn.entry ?_
  unfold Builtin.«BaseException.__new__»
  refine PySem.wpAt_bind ?_
  show PySem.wpAt _ _ _ (stack >>= _) _ _ _
  refine PySem.wpAt_bind (PySem.wpAt_stack fun p below => PySem.wpAt_of_wpAny ?_)
  wp_walk
  refine PySem.wpAt_of_wpAny ?_
  rw [Fn.owner]
  repeat (first
    | with_reducible refine wpAny_madeHere_exc Fn.canon hC ?_
    | with_reducible refine wpAny_loadPart_at hC ?_
    | (with_reducible refine wpAny_isSubtype_exc hC ?_; first | rw [c1] | rw [c2] | rw [c3])
    | wp_step)
  show R _ _
  rw [Heap.size_push]
  exact hq
end
section
variable {prog : Program} {w : World} {A : Around} {E : Value → Shared → Prop} {s : Shared} {K : Frag} {C L fI : Addr} {h₀ : Heap} {m : Str → Option Value} {news : List (Addr × Obj)} {Q : Value → Shared → Prop}
variable {nm q : Str} {Nn : Addr} {bs bm bmN : List Value} {hdct : Bool} {sn : List Str} {sub : List Value} {ab : Bool} {col : Option Bool} {dd : Option Addr} {k0 k1 k2 k3 k5 : Option Value} {B newId inN : String}
/-- an exception of the text's own class is made; its __init__ is a def of the text's, wherever along the bases it stands -/
theorem exc_call_init (Fn : ExcBaseFacts B newId inN bmN) (hB : bm.contains (.type B) = true) (hA : bm.contains (.type "AttributeError") = false) (hN : bm.contains (.type "NameError") = false) {rest : List Value}
    (F : Fr h₀ L s.heap m) (X₀ : K.In h₀) (N : News h₀ L s.heap news) (hcls : K.lookup C = some (excClassObj nm q C Nn bs bm hdct sn sub ab col dd k0 k1 k2 k3 k5 newId))
    (hi : findIn K (.ref C) "__init__" = some (some (.ref fI))) (hf : typeIn K (.ref fI) = some (.type "function")) (hrest : rest.length ≤ sizeLine)
    (hq : ∀ e t h', Fr h₀ L h' m → News h₀ L h' ((e, excO C t none) :: (t, tupO rest 0) :: news) → (∀ p ∈ news, p.1 < t) → t < e →
      codeAny (model prog w) (A.under (.builtin "type.__call__" ⟨.ref C :: rest, []⟩)) (.call (.ref fI) ⟨.ref e :: rest, []⟩) (InitBack e fun r s' => match r with | .ok (.ret v) => Q v s' | .ok _ => False | .error e => E e s') { s with heap := h' }) :
    wpAny (model prog w) A (call (.ref C) rest []) Q E s := by
  obtain ⟨h, g, d, t, os⟩ := s
  have X : K.In h := X₀.keeps F.keep
  have hC : h.get? C = some (excClassObj nm q C Nn bs bm hdct sn sub ab col dd k0 k1 k2 k3 k5 newId) := X _ _ hcls
  have f1 := tc_lookup
  have f2 := tc_bind (.ref C)
  have hT : (⟨h, g, d, t, os⟩ : Shared).TypeIs (.ref C) "type" := ⟨_, hC, rfl⟩
  refine wpAny_call (codeAny_of_tree ?_)
  show wpAny _ _ (callAny (.ref C) _) _ _ _
  repeat (any_goals (first | assumption | with_reducible refine wpAny_loadPart_at hC ?_ | wp_step))
  refine ⟨rfl, ?_⟩
  refine codeAny_call_builtin_at (Code.quiet_builtin _ (by decide +kernel)) entry_typeCall (wpAny_check_type_call_sub hC ?_)
  repeat (first | with_reducible refine wpAny_loadPart_at hC ?_ | with_reducible refine wpAny_madeBy_exc hC ?_ | wp_step)
  refine codeAny_call_builtin_code (Code.quiet_builtin _ Fn.quiet) (wpAny_check_new_subU Fn hB .base hC ?_)
  refine exc_new_own (rest := rest) Fn hB hA hN hC ?_ hrest
  show wpAny _ _ _ _ _ _
  have k : ∀ b o, h.get? b = some o → ((h.push (tupO rest 0)).push (excO C h.objs.size none)).get? b = some o := fun b o e => Heap.get?_push_of_some _ (Heap.get?_push_of_some _ e)
  have hC₁ := k _ _ hC
  have hx : ((h.push (tupO rest 0)).push (excO C h.objs.size none)).get? (h.objs.size + 1) = some { cls := .ref C, data := .fields #[.ref h.objs.size, .none, .none, .none, .bool false, .none] } := by heap_get
  have hcC : (Value.ref C :: bm).contains (.ref C) = true := by simp
  have X₁ : K.In ((h.push (tupO rest 0)).push (excO C h.objs.size none)) := X.keeps k
  have F₁ : Fr h₀ L ((h.push (tupO rest 0)).push (excO C h.objs.size none)) m := (F.push _).push _
  have N₁ := (N.push F (tupO rest 0)).push (F.push _) (excO C h.objs.size none)
  rw [Heap.size_push] at N₁
  unfold isInstance
  repeat (first | with_reducible refine wpAny_loadPart_at hx ?_ | (with_reducible refine wpAny_isSubtype_exc hC₁ ?_; rw [hcC]) | wp_step)
  show wpAny _ _ (typeLookup (.ref C) _) _ _ _
  refine (looks_findIn X₁ hi).here ?_
  refine wpAny_holding (wpAny_bind ?_)
  refine (bind_fn X₁ (.ref (h.objs.size + 1)) hf).here ?_
  refine wpAny_bind (wpAny_call ?_)
  refine codeAny_mono (hq _ _ _ F₁ N₁ (fun p hp => Heap.lt_size (N p hp).1) (Nat.lt_succ_self _)) fun r s' z => ?_
  rcases r with e | (v | _ | _ | _) <;> first | exact z | exact z.elim | skip
  obtain ⟨rfl, z⟩ := z
  exact wpAny_pure (wpAny_pure z)
end

section
variable {prog : Program} {w : World} {A : Around} {E : Value → Shared → Prop} {s : Shared} {K : Frag} {C L e t : Addr} {dx : Option Addr} {h₀ : Heap} {m : Str → Option Value} {news : List (Addr × Obj)} {Q : Value → Shared → Prop} {v : Value} {B nid initId : String} {bmB : List Value}
variable {nm q : Str} {Nn : Addr} {bs bm : List Value} {hdct : Bool} {sn : List Str} {sub : List Value} {ab : Bool} {col : Option Bool} {dd : Option Addr} {k0 k1 k2 k3 k5 : Option Value} {newId : String}
/-- the built-in base's own __init__ upon an exception of the text's class -/
theorem exc_init (FB : ExcBaseFacts B nid initId bmB) (hB : bm.contains (.type B) = true) (F : Fr h₀ L s.heap m) (X₀ : K.In h₀) (N : News h₀ L s.heap ((e, excO C t dx) :: news)) (hne : ∀ p ∈ news, p.1 ≠ e)
    (hcls : K.lookup C = some (excClassObj nm q C Nn bs bm hdct sn sub ab col dd k0 k1 k2 k3 k5 newId))
    (h : ∀ t2 h', Fr h₀ L h' m → News h₀ L h' ((e, excO C t2 dx) :: (t2, tupO [v] 0) :: news) → e < t2 → (∀ p ∈ news, p.1 < t2) → Q .none { s with heap := h' }) :
    wpAny (model prog w) A (call (.builtin initId) [.ref e, v]) Q E s := by
  obtain ⟨hp, g, d, tk, os⟩ := s
  have hC : hp.get? C = some (excClassObj nm q C Nn bs bm hdct sn sub ab col dd k0 k1 k2 k3 k5 newId) := X₀.keeps F.keep _ _ hcls
  have he : hp.get? e = some { cls := .ref C, dict := dx, data := .fields #[.ref t, .none, .none, .none, .bool false, .none] } := (N _ (List.mem_cons_self)).1
  have hcB : (Value.ref C :: bm).contains (.type B) = true := by rw [List.contains_cons, hB, Bool.or_true]
  have hshort := FB.noStar
  refine wpAny_call (codeAny_call_builtin FB.init.plain FB.initEntry ?_)
  simp only [checkBuiltinCall, FB.initKind, FB.initSplit, FB.initRow]
  repeat (first | with_reducible refine wpAny_loadPart_at he ?_ | with_reducible refine wpAny_loadPart_at hC ?_ | (with_reducible refine wpAny_isSubtype_exc hC ?_; rw [hcB]) | wp_step)
  have N1 : News h₀ L (hp.push (tupO [v] 0)) ([(hp.objs.size, tupO [v] 0)] ++ (e, excO C t dx) :: news) := N.push F (tupO [v] 0)
  obtain ⟨U1, U2⟩ := news_upd (f := Obj.mapFields fun x => x.setIfInBounds 0 (Value.ref hp.objs.size)) (o' := excO C hp.objs.size dx) (F.push (tupO [v] 0)) N1
    (fun p hp => by rw [List.mem_singleton.mp hp]; exact Nat.ne_of_gt (Heap.lt_size he)) hne rfl rfl
  exact h _ _ U1 (nSwap U2) (Heap.lt_size he) (fun p hp => Heap.lt_size (N p (List.mem_cons_of_mem _ hp)).1)
end

section
variable {prog : Program} {w : World} {A : Around} {E : Value → Shared → Prop} {s : Shared} {K : Frag} {C L e t dx : Addr} {h₀ : Heap} {m : Str → Option Value} {news news' : List (Addr × Obj)} {v : Value} {name : Str} {tk : Tok}
theorem store_dict {Q : PySem.Fin → Shared → Prop} {es es' : List DictEntry} {n n' : Nat} (F : Fr h₀ L s.heap m) (N : News h₀ L s.heap news) (U : Upd dx (dictOf es n) (dictOf es' n') news news') (hl : (getL name es).isSome = true)
    (q : (putL name (PyData.keyHash w.params name) (.str name s.toks) v es, putN name es n) = (es', n')) (hz : es'.length ≤ 1000) (h : ∀ h', Fr h₀ L h' m → News h₀ L h' news' → Q (.done (.ret .none)) { s with heap := h', toks := s.toks + 1 }) :
    wpAny (model prog w) A (storeInDict dx (.str name tk) name v) Q E s := by
  obtain ⟨pre, post, rfl, rfl, h1, h2⟩ := U.split
  obtain ⟨q1, q2⟩ := Prod.mk.inj q
  obtain ⟨U1, U2⟩ := news_upd (f := Obj.putName name (PyData.keyHash w.params name) (.str name s.toks) v) (o' := dictOf es' n') F N h1 h2 (by rw [putName_dict, q1, q2]) rfl
  have D := (N (dx, dictOf es n) (by simp)).1
  have D' := (U2 (dx, dictOf es' n') (by simp)).1
  unfold storeInDict newKeyGuard
  refine wpAny_bind (wpAny_pure (wpAny_bind ?_))
  unfold nsSet
  refine wpAny_bind (wpAny_bind (wpAny_askSetting (wpAny_pure (wpAny_bind (wpAny_mkText (wpAny_bind (wpAny_loadPart D ?_)))))))
  dsimp only
  have c : (!es.toArray.any (·.key.isStr name) && es.toArray.any (·.refKey)) = false := by
    rw [← Array.any_toList, ← Array.any_toList]
    unfold getL at hl
    split at hl
    · rename_i en he
      rw [List.any_eq_true.mpr ⟨en, List.mem_of_find?_eq_some he, List.find?_some he⟩]; rfl
    · split at hl
      · cases hl
      · rename_i z; rw [Bool.not_eq_true] at z; rw [z, Bool.and_false]
  rw [aRefKeyMayBeTheName_at, c]
  refine wpAny_updatePart D ?_
  refine wpAny_bind (wpAny_lookBehind D' (pastItsLine_dict (by rw [List.size_toArray, sizeLine_eq]; omega)) ?_)
  exact wpAny_pure (h _ U1 U2)

theorem refuse_refs {bm : List Value} (hpass : ∀ self : Value, refuseLoop self "__setattr__" bm = pure ()) (self : Value) : ∀ l : List Addr, refuseLoop self "__setattr__" (l.map Value.ref ++ bm) = pure ()
  | [] => hpass self
  | c :: r => by rw [List.map_cons, List.cons_append, refuseLoop_ref]; exact refuse_refs hpass self r

/-- self.name = v upon an exception of the text's own class -/
theorem exc_set {ox : Obj} {od : Option Obj} {cd : ClassData} {l : List Addr} {Q : Unit → Shared → Prop} (F : Fr h₀ L s.heap m) (X₀ : K.In h₀) (I : InstAt s.heap e ox C od) (hcd : clsIn K C = some cd)
    (hmro : cd.mro = l.map Value.ref ++ [.type "Exception", .type "BaseException", .type "object"]) (hs : findIn K (.ref C) "__setattr__" = some (some (.builtin "object.__setattr__"))) (hn : findIn K (.ref C) name = some none) (ho : subIn K (.ref C) (.type "object") = some true)
    (h : wpAny (model prog w) A.in1 (storeInOwnDict (.ref e) (.ref C) (.str name s.toks) name v false) (fun fin s' => match fin with | .done (.ret _) => Q () s' | _ => False) E { s with toks := s.toks + 1 }) :
    wpAny (model prog w) A (setAttr (.ref e) name v) Q E s := by
  obtain ⟨hp, g, d, tk0, os⟩ := s
  replace I : InstAt hp e ox C od := I
  have X : K.In hp := X₀.keeps F.keep
  have SF := PySem.F.store_Exception
  refine set_plain X I hs ?_
  dsimp only at h ⊢
  have sub : Looks (model prog w) hp (isInstance (.ref e) (.type "object")) true := I.type.andThen (looks_subIn X ho)
  refine codeAny_call_builtin SF.slot.plain SF.entry (@check_slot (model prog w) _ _ ⟨hp, g, d, tk0 + 1, os⟩ "object.__setattr__" "object" "__setattr__" (.ref e) [.str name tk0, v] [] _ SF.kind SF.split sub (SF.args (.ref e) (.str name tk0) v) ?_)
  have hm : Looks (model prog w) hp (mroOf (.ref C)) cd.mro := (looks_clsIn X hcd).andThen .now
  rw [osa_eq, refuse_eq]
  refine wpAny_bind (wpAny_bind (I.type.at (wpAny_bind (hm.at ?_))))
  rw [hmro, refuse_refs SF.passes]
  refine wpAny_pure (wpAny_bind (I.type.at (wpAny_bind ((looks_findIn X hn).at ?_))))
  refine wpAny_bind (wpAny_pure ?_)
  refine wpAny_mono h (fun fin s' z => ?_) fun _ _ z => z
  rcases fin with (x | _ | _ | _) | _ <;> first | exact z | exact z.elim

/-- the first name: the exception has no dict yet -/
theorem exc_set0 {cd : ClassData} {l : List Addr} {Q : Unit → Shared → Prop} (F : Fr h₀ L s.heap m) (X₀ : K.In h₀) (N : News h₀ L s.heap ((e, excO C t none) :: news)) (hne : ∀ p ∈ news, p.1 ≠ e) (hcd : clsIn K C = some cd) (hdd : cd.hasDict = true)
    (hmro : cd.mro = l.map Value.ref ++ [.type "Exception", .type "BaseException", .type "object"]) (hs : findIn K (.ref C) "__setattr__" = some (some (.builtin "object.__setattr__"))) (hn : findIn K (.ref C) name = some none) (ho : subIn K (.ref C) (.type "object") = some true)
    (h : ∀ dx tk' h', Fr h₀ L h' m → News h₀ L h' ((e, excO C t (some dx)) :: (dx, dictOf [⟨PyData.keyHash w.params name, .str name tk', v⟩] 1) :: news) → e < dx → (∀ p ∈ news, p.1 < dx) → Q () { s with heap := h', toks := s.toks + 2 }) :
    wpAny (model prog w) A (setAttr (.ref e) name v) Q E s := by
  have he := (N _ List.mem_cons_self).1
  refine exc_set F X₀ (od := none) ⟨he, rfl, rfl, trivial⟩ hcd hmro hs hn ho ?_
  obtain ⟨hp, g, d, tk0, os⟩ := s
  have X : K.In hp := X₀.keeps F.keep
  refine wpAny_bind (wpAny_pure (wpAny_bind (wpAny_bind (wpAny_loadPart he (wpAny_bind ((looks_clsIn X hcd).at ?_))))))
  rw [hdd]
  have he1 : (hp.push emptyDict).get? e = some (excO C t none) := Heap.get?_push_of_some _ he
  have hlt : e < hp.objs.size := Heap.lt_size he
  refine wpAny_bind (wpAny_alloc' (wpAny_bind (wpAny_update' he1 ?_)))
  have N1 : News h₀ L (hp.push emptyDict) ([(hp.objs.size, emptyDict)] ++ (e, excO C t none) :: news) := N.push F emptyDict
  obtain ⟨U1, U2⟩ := news_upd (f := fun o => { cls := o.cls, dict := some hp.objs.size, data := o.data, slots := o.slots }) (o' := excO C t (some hp.objs.size)) (F.push emptyDict) N1
    (fun p hp => by rw [List.mem_singleton.mp hp]; exact Nat.ne_of_gt hlt) hne rfl rfl
  refine wpAny_pure (a := some hp.objs.size) ?_
  refine store_dict (es := []) (n := 0) (dx := hp.objs.size) U1 (nSwap U2) (Upd.tail (Nat.ne_of_lt hlt) (Upd.head fun p hp => Nat.ne_of_lt (Heap.lt_size (N p (List.mem_cons_of_mem _ hp)).1))) rfl rfl (Nat.le_of_ble_eq_true rfl) fun h' F' N' => ?_
  exact h _ _ _ F' N' hlt (fun p hp => Heap.lt_size (N p (List.mem_cons_of_mem _ hp)).1)

/-- a further name: the dict stands -/
theorem exc_set1 {cd : ClassData} {l : List Addr} {es : List DictEntry} {es' : Tok → List DictEntry} {n n' : Nat} {Q : Unit → Shared → Prop} (F : Fr h₀ L s.heap m) (X₀ : K.In h₀) (N : News h₀ L s.heap ((e, excO C t (some dx)) :: (dx, dictOf es n) :: news)) (hne : e < dx) (hnx : ∀ p ∈ news, p.1 ≠ dx) (hcd : clsIn K C = some cd) (hdd : cd.hasDict = true)
    (hmro : cd.mro = l.map Value.ref ++ [.type "Exception", .type "BaseException", .type "object"]) (hs : findIn K (.ref C) "__setattr__" = some (some (.builtin "object.__setattr__"))) (hn : findIn K (.ref C) name = some none) (ho : subIn K (.ref C) (.type "object") = some true)
    (hl : (getL name es).isSome = true) (q : ∀ tk', (putL name (PyData.keyHash w.params name) (.str name tk') v es, putN name es n) = (es' tk', n')) (hz : ∀ tk', (es' tk').length ≤ 1000)
    (h : ∀ tk' h', Fr h₀ L h' m → News h₀ L h' ((e, excO C t (some dx)) :: (dx, dictOf (es' tk') n') :: news) → Q () { s with heap := h', toks := s.toks + 2 }) :
    wpAny (model prog w) A (setAttr (.ref e) name v) Q E s := by
  have he := (N _ List.mem_cons_self).1
  refine exc_set F X₀ (od := some (dictOf es n)) ⟨he, rfl, rfl, (N (dx, dictOf es n) (List.mem_cons_of_mem _ List.mem_cons_self)).1⟩ hcd hmro hs hn ho ?_
  obtain ⟨hp, g, d, tk0, os⟩ := s
  have X : K.In hp := X₀.keeps F.keep
  refine wpAny_bind (wpAny_pure (wpAny_bind (wpAny_bind (wpAny_loadPart he (wpAny_bind ((looks_clsIn X hcd).at ?_))))))
  rw [hdd]
  refine wpAny_pure (a := some dx) ?_
  exact store_dict F N (Upd.tail (Nat.ne_of_lt hne) (Upd.head hnx)) hl (q _) (hz _) fun h' F' N' => h _ _ F' N'
end


def RaisableO (K : Frag) (C : Addr) (E : Value → Shared → Prop) (v : Value) (s₁ : Shared) : Prop :=
  ∃ e ob vs, v = .ref e ∧ s₁.heap.get? e = some ob ∧ ob.cls = .ref C ∧ ob.data = .fields vs ∧ vs[1]? = some .none ∧ K.In s₁.heap ∧ E (.ref e) s₁
section
variable {M : Model} {A : Around} {E : Value → Shared → Prop} {s : Shared} {env : Env} {K : Frag} {C : Addr}
theorem Raise_obj {x : Expr} {pos : Pos} {Q : Flow → Shared → Prop} (hh : A.handled = none) (hbase : subIn K (.ref C) (.type "BaseException") = some true) (hmeta : typeIn K (.ref C) = some (.type "type"))
    (h : wpAny M A (eval x env) (RaisableO K C E) E s) : wpAny M A (exec (.Raise (some x) none pos) env) Q E s := by
  show wpAny M A (do standAt pos; raiseStmt env (some (do let v ← eval x env; standAt pos; pure v)) none) Q E s
  refine wpAny_bind (wpAny_standAt ?_)
  unfold raiseStmt
  dsimp only
  refine wpAny_bind (wpAny_bind (wpAny_mono h (fun v s₁ h₁ => wpAny_bind (wpAny_standAt (wpAny_pure ?_))) fun _ _ z => z))
  obtain ⟨a, ob, vs, rfl, ha, hcls, hd, h1, X, hE⟩ := h₁
  obtain ⟨hp, g, d, tk, os⟩ := s₁
  have ty : Looks M hp (typeOf (.ref a)) (.ref C) := by
    have L := (Looks.ld (M := M) (part := none) ha).andThen (f := fun o => pure o.cls) (b := ob.cls) .now
    rw [hcls] at L
    exact L
  have hi : Looks M hp (isInstance (.ref a) (.type "BaseException")) true := ty.andThen (looks_subIn X hbase)
  have hnt : ∀ {Q' : Bool → Shared → Prop}, Q' false ⟨hp, g, d, tk, os⟩ → wpAny M A (isType (.ref a)) Q' E ⟨hp, g, d, tk, os⟩ := by
    intro Q' hq
    simp only [isType, loadHead]
    refine wpAny_bind (wpAny_loadPart ha ?_)
    rw [hd]; exact wpAny_pure hq
  refine wpAny_bind (wpAny_pure ?_)
  dsimp only
  refine wpAny_bind (wpAny_holding ?_)
  unfold excFromValue isExcClass
  refine wpAny_bind (wpAny_bind (hnt ?_))
  simp only [Bool.false_eq_true, if_false]
  refine wpAny_pure ?_
  simp only [Bool.false_eq_true, if_false]
  refine wpAny_bind (hi.at ?_)
  simp only [if_true]
  refine wpAny_pure ?_
  refine wpAny_bind (hnt ?_)
  simp only [Bool.false_eq_true, if_false]
  have mt : Looks M hp (typeOf (.ref C)) (.type "type") := looks_typeIn X hmeta
  unfold raisedInstance
  refine wpAny_bind (wpAny_bind (ty.at (wpAny_bind (mt.at ?_))))
  rw [if_pos (by decide)]
  refine wpAny_pure ?_
  unfold setFlight raiseNew
  refine wpAny_bind (wpAny_bind (wpAny_field ha hd h1 ?_))
  rw [if_neg (by decide)]
  refine wpAny_pure (wpAny_bind (wpAny_handled ?_))
  rw [hh]
  first
    | exact wpAny_throw hE
    | exact wpAny_bind (wpAny_pure (wpAny_throw hE))
end

section
variable {M : Model} {A : Around} {E : Value → Shared → Prop} {s' : Shared} {base g : Heap} {outer : List Env} {L a e t C : Addr} {dx : Option Addr} {m : Str → Option Value} {name : Str} {scope : Scope} {cd : Value} {Q : Unit → Shared → Prop} {news : List (Addr × Obj)} {vs : List Value}
/-- an exception of the text's own class, whatever its dict, leaves the frame that raised it -/
theorem leave_obj (K : Below A base outer g) (F : Fr g L s'.heap m) (N : News g L s'.heap ((e, excO C t dx) :: (t, tupO vs 0) :: news)) (he : ∀ p ∈ news, p.1 ≠ e) (ht : ∀ p ∈ news, p.1 ≠ t)
    (hQ : ∀ h', RaisedS base g outer e (.ref C) t vs news h' → RaisedK base outer e (.ref C) t vs news h' → g.UpToSlots h' → Q () { s' with heap := h' }) (hk : scope.kind = .function := by rfl) :
    wpAny M (A.deeper (envOf name scope L a cd)) (leaving (envOf name scope L a cd) (.ref e)) Q E s' := by
  have K' := K.push (name := name) (a := a) (cd := cd) F hk
  have Ne := N (e, excO C t dx) List.mem_cons_self
  have Nt := N (t, tupO vs 0) (List.mem_cons_of_mem _ List.mem_cons_self)
  let fs := (envOf name scope L a cd :: outer).filterMap (·.frame)
  let hid := e :: t :: fs
  have hin : ∀ env ∈ (envOf name scope L a cd :: outer), ∀ b, env.frame = some b → b ∈ hid := fun env hv b hb => List.mem_cons_of_mem _ (List.mem_cons_of_mem _ (List.mem_filterMap.mpr ⟨env, hv, hb⟩))
  have nb : ∀ {b : Addr}, g.get? b = none → base.get? b = none := fun q => fresh_of_stays K.stays q
  have st : base.StaysIn (hideAll s'.heap hid) := fun b o q => hideAll_get _ (K'.stays b o q) fun hm => by
    rcases List.mem_cons.mp hm with z | hm
    · rw [z, nb Ne.2.2] at q; cases q
    rcases List.mem_cons.mp hm with z | hm
    · rw [z, nb Nt.2.2] at q; cases q
    rw [(K'.frames.mem hm).1] at q; cases q
  have sg : ∀ b o, g.get? b = some o → b ∉ outer.filterMap (·.frame) → (hideAll s'.heap hid).get? b = some o := fun b o q nm => hideAll_get _ (F.keep b o q) fun hm => by
    rcases List.mem_cons.mp hm with z | hm
    · rw [z, Ne.2.2] at q; cases q
    rcases List.mem_cons.mp hm with z | hm
    · rw [z, Nt.2.2] at q; cases q
    rcases kts_mem hm with z | z
    · rw [z, kts_self F] at q; cases q
    · exact nm z
  have hl : ∀ q ∈ news, (hideAll s'.heap hid).get? q.1 = some q.2 ∧ g.get? q.1 = none ∧ base.get? q.1 = none := fun q hq => by
    have Nq := N q (List.mem_cons_of_mem _ (List.mem_cons_of_mem _ hq))
    refine ⟨hideAll_get _ Nq.1 fun hm => ?_, Nq.2.2, nb Nq.2.2⟩
    rcases List.mem_cons.mp hm with z | hm
    · exact he q hq z
    rcases List.mem_cons.mp hm with z | hm
    · exact ht q hq z
    obtain ⟨env, hv, hf⟩ := List.mem_filterMap.mp hm
    rcases List.mem_cons.mp hv with rfl | hv
    · exact Nq.2.1 (Option.some.inj hf).symm
    · obtain ⟨o, ho, _⟩ := (K.frames.mem (List.mem_filterMap.mpr ⟨env, hv, hf⟩)).2
      rw [Nq.2.2] at ho; cases ho
  have hen : (hideAll s'.heap hid).get? e = none := hideAll_none _ List.mem_cons_self
  have htn : (hideAll s'.heap hid).get? t = none := hideAll_none _ (List.mem_cons_of_mem _ List.mem_cons_self)
  refine wpAny_leaving_firstW (a0 := .ref t) K'.stack (funFrames_hide K'.frames hin) rfl Ne.1 (fun b o hb => of_hideAll _ hb) hen rfl rfl rfl fun h' hL => ?_
  obtain ⟨k1, ⟨_, _, k2⟩, k3, k4⟩ := hL
  have R : RaisedS base g outer e (.ref C) t vs news h' := ⟨⟨_, st, sg, hl, ⟨k1, hen, k2, k3⟩, htn⟩, Heap.TupAt.of_slots ⟨_, _, Nt.1, rfl, rfl⟩ k4⟩
  exact hQ h' R R.toK ((Heap.UpToSlots.of_keeps F.keep).trans k4)
end
end Mine
end
section
set_option maxRecDepth 100000
open PySem PySem.W PySem.Spec PySem.Calls PyProof.Rows
namespace Mine
section
variable {prog : Program} {w : World} {A : Around} {E : Value → Shared → Prop} {s : Shared} {h₀ : Heap} {L : Addr} {m : Str → Option Value} {news : List (Addr × Obj)}
theorem applied_rev1 {sl : Addr} {u : Tok} {Q : Int × Int × Nat → Shared → Prop} (hs : s.heap.IsSliceOf sl .none .none (.int (-1) u)) (h : Q (0, -1, 1) s) :
    wpAny (model prog w) A (Builtin.Slice.sliceApplied (.ref sl) (pure ((1 : Nat) : Int))) Q E s := by
  obtain ⟨os, hos, hcs, hds⟩ := id hs
  unfold Builtin.Slice.sliceApplied Builtin.Slice.sliceFields
  refine wpAny_bind (wpAny_bind (wpAny_field hos hds (x := .none) rfl (wpAny_bind (wpAny_field hos hds (x := .none) rfl (wpAny_bind (wpAny_field hos hds (x := .int (-1) u) rfl (wpAny_pure ?_)))))))
  refine wpAny_bind (slicePart_int ?_)
  show wpAny _ _ (if ((-1 : Int) == 0) = true then _ else _) _ _ s
  rw [if_neg (by decide)]
  refine wpAny_bind (slicePart_none (wpAny_bind (slicePart_none (wpAny_bind (wpAny_pure ?_)))))
  exact wpAny_pure h
theorem getItem_rev1 {t sl : Addr} {y : Value} {u : Tok} {Q : Value → Shared → Prop} (ht : IsTup s.heap t [y].toArray) (hs : s.heap.IsSliceOf sl .none .none (.int (-1) u))
    (h : Q (.ref s.heap.objs.size) { s with heap := s.heap.push (tupO [y] 0) }) : wpAny (model prog w) A (getItem (.ref t) (.ref sl)) Q E s := by
  have hok : sizeOk (.seq [y].toArray) := by
    show [y].toArray.size ≤ sizeLine
    rw [sizeLine_eq]; simp
  obtain ⟨os, hos, hcs, hds⟩ := id hs
  have hTs : s.TypeIs (.ref sl) "slice" := ⟨os, hos, hcs⟩
  unfold getItem
  try with_reducible refine wpAny_holding ?_
  first | refine wpAny_bind (wpAny_pure ?_) | skip
  refine wpAny_bind (wpAny_sequenceKey ht.typeIs (by decide) ?_)
  refine wpAny_bind (wpAny_callSpecial?_slot (name := Str.ofString "__getitem__") ht.typeIs slot_tuple_getitem
    (wpAny_call_entry slot_tuple_getitem ht.typeIs entry_tuple_getitem ?_ (args_tuple_getitem _ _)))
  show wpAny _ _ (Builtin.Tuple.tupleItemsOf (.ref t) >>= _) _ _ s
  refine wpAny_bind (tupleItemsOf_ ht ?_)
  refine wpAny_bind (wpAny_typeOf hTs ?_)
  rw [if_pos (by decide)]
  refine wpAny_bind (applied_rev1 hs ?_)
  show wpAny _ _ (if ((0 : Int) == 0 && (-1 : Int) == 1 && (1 : Nat) == 1) = true then _ else _) _ _ s
  rw [if_neg (by decide)]
  have e : ((List.range 1).filterMap fun (k : Nat) => [y].toArray[((0 : Int) + (k : Int) * (-1)).toNat]?).toArray = [y].toArray := rfl
  rw [e]
  first
    | exact wpAny_bind (m := Builtin.Tuple.tupleExact _) (wpAny_newObj_type (wpAny_pure ⟨_, rfl, wpAny_pure h⟩) hok)
    | exact wpAny_bind (m := Builtin.Tuple.tupleExact _) (wpAny_newObj_type (wpAny_bind (wpAny_pure (wpAny_pure ⟨_, rfl, wpAny_pure h⟩))) hok)
    | exact wpAny_bind (wpAny_bind (m := Builtin.Tuple.tupleExact _) (wpAny_newObj_type (wpAny_pure (wpAny_pure ⟨_, rfl, wpAny_pure h⟩)) hok))
    | exact wpAny_bind (wpAny_bind (m := Builtin.Tuple.tupleExact _) (wpAny_newObj_type (wpAny_pure ⟨_, rfl, wpAny_pure h⟩) hok))
/-- a tuple of one item, read backwards -/
theorem tup_rev1 {value slice : Expr} {ops : List Value} {t : Addr} {y : Value} {u : Tok} {Q : Value → Shared → Prop} (F : Fr h₀ L s.heap m) (N : News h₀ L s.heap news) (ht : IsTup s.heap t [y].toArray)
    (h : ∀ D h', Fr h₀ L h' m → News h₀ L h' ((D, tupO [y] 0) :: news) → (∀ p ∈ news, p.1 < D) → Q (.ref D) { s with heap := h' })
    (hs : subscripted slice false (.ref t) (.ref s.heap.objs.size) = operate ops (getItem (.ref t) (.ref s.heap.objs.size)))
    (hg : ∀ r, letTemporaryGo value (.ref t) r = pure ()) :
    wpAny (model prog w) A (subscriptTail value slice (.ref t) (.ref s.heap.objs.size)) Q E { s with heap := s.heap.push { cls := .type "slice", data := .fields #[.none, .none, .int (-1) u] } } := by
  have ht' : IsTup (s.heap.push { cls := .type "slice", data := .fields #[.none, .none, .int (-1) u] }) t [y].toArray := ht.keeps fun _ _ e => Heap.get?_push_of_some _ e
  refine subscriptTail_ops (s := { s with heap := s.heap.push { cls := .type "slice", data := .fields #[.none, .none, .int (-1) u] } }) ht'.typeIs slot_tuple_getitem.lookup
    (getItem_rev1 ht' (Heap.IsSliceOf.new ..) ?_) hs hg
  have N1 := News.push (F.push { cls := .type "slice", data := .fields #[.none, .none, .int (-1) u] }) (N.grown fun _ _ e => Heap.get?_push_of_some _ e) (tupO [y] 0)
  rw [Heap.size_push] at N1
  show Q (.ref (s.heap.push _).objs.size) _
  rw [Heap.size_push]
  exact h _ _ ((F.push _).push _) N1 (fun p hp => Nat.lt_succ_of_lt (Heap.lt_size (N p hp).1))
end
end Mine
end
section
open PySem PySem.W PySem.Spec PySem.Calls PyProof.Rows
set_option maxRecDepth 100000
namespace Mine

section
local macro_rules | `(tactic| k_room) => `(tactic| ktr_room)
local macro_rules | `(tactic| walk_at "getMethod type:Exception") => `(tactic| (k_here; k_dflt (refine' method_type ?y1 ?y2 ?y3 ?y6 ?y4 ?y5 ?_; (case y1 => k_asm); (case y2 => k_asm); (case y3 => (first | rfl | kernel_rfl)); (case y6 => decide +kernel); (case y4 => k_is); (case y5 => k_handed))))
local macro_rules | `(tactic| walk_at "call builtin:Exception.__init__") => `(tactic| (k_here; k_extra "my init"))
local macro_rules | `(tactic| walk_at "setAttr ref") => `(tactic| (k_here; k_extra "my set"))
local macro_rules | `(tactic| k_all) => `(tactic| assumption)
local macro_rules | `(tactic| k_mem) => `(tactic| (refine memL ?_; ktr_member))
variable {w : World} {p : Program} {loose : List Str} {mean : ExcName → Option Value} {mg mb : Str → Option Value} {dp un : Nat} {gd : Option (List Code)} {cn : Str} {cs : Scope} {a : Addr} {ccd : Value} {cl : List (Str × Addr)} {outer : List Env} {A₀ : Around} {base h₀ : Heap} {L : Addr} {m : Str → Option Value} {news : List (Addr × Obj)} {s : Shared}
  {Q E : Value → Shared → Prop}
set_option maxHeartbeats 8000000 in
theorem fault {x : Str} {tx : Tok}
    (B : Below A₀ base outer h₀) (F : Fr h₀ L s.heap m) (X : (kk.heap_1 w.params).In h₀) (N : News h₀ L s.heap news) (T : Top p loose mean mg mb h₀) (hk : cs.kind = .function)
    (hd : dp + 10 < recursionLimit) (hu : un + 200 < cLine)
    (hret : ∀ e t dx h' tk', Fr h₀ L h' m → News h₀ L h' ((e, excO 45 t (some dx)) :: (t, tupO [.str x tx] 0) :: news) → (∀ p ∈ news, p.1 ≠ e) → (∀ p ∈ news, p.1 ≠ t) → Q (.ref e) { s with heap := h', toks := tk' }) :
    wpAny (model PySem.Challenge.rw_sf0043_01.row.prog w) (ktrTop dp un gd cn cs L a ccd cl outer) (call (.ref 45) [.str x tx]) Q E s := by
  w_top off
  revert X
  k_fill
  intro X
  k_dflt (refine' exc_call_init PySem.F.excBase_Exception ?k1 ?k2 ?k3 F X N ?k4 ?k5 ?k6 ?k7 ?_; (case k4 => k_is); (case k1 => rfl); (case k2 => rfl); (case k3 => rfl); (case k5 => k_is); (case k6 => k_is); (case k7 => (rw [sizeLine_eq]; simp)))
  intro e t h1 F1 N1 l1 l2
  have hne1 : ∀ p ∈ (t, tupO [.str x tx] 0) :: news, p.1 ≠ e := fun p hp => by
    rcases List.mem_cons.mp hp with z | hp
    · rw [z]; exact Nat.ne_of_lt l2
    · exact Nat.ne_of_lt (Nat.lt_trans (l1 p hp) l2)
  k_dflt (refine' code_def ?k1 ?k2 ?k3 ?k4 ?k5 ?kA ?kF ?kK ?k6 ?k7 ?k8 ?k9 ?kB ?_ ?c2 ?c3 ?c4 ?c5; (case kA => exact rfl); (case kF => exact rfl); (case kK => assumption); (case k1 => k_asm); (case k2 => k_asm); (case k3 => k_asm); (case k4 => k_asm); (case k5 => k_asm); (case k6 => k_is); (case k7 => k_is); (case k8 => ktr_room); (case k9 => exact binds_K (by k_in) rfl (by k_is) rfl rfl rfl); (case c5 => decide); (case kB => exact locs rfl); (case c2 => exact rfl); (case c3 => exact rfl); (case c4 => exact rfl); k_whole)
  intro g' L' h' FG' F' N' B' X' T'
  (try dsimp only)
  (try k_fold)
  k_with_none
  k_with "my init" => k_dflt (
    (refine' exc_init PySem.F.excBase_Exception ?k1 ?k2 ?k3 ?k4 hne1 ?k6 ?_; (case k2 => k_asm); (case k3 => k_asm); (case k4 => k_asm); (case k6 => k_is); (case k1 => rfl); k_whole);
    intro t2 h2 F2 N2 l3 l4;
    have hne2 : ∀ p ∈ (t2, tupO [.str x tx] 0) :: news, p.1 ≠ e := (fun p hp => by
      rcases List.mem_cons.mp hp with z | hp
      · rw [z]; exact Nat.ne_of_gt l3
      · exact hne1 p (List.mem_cons_of_mem _ hp));
    replace N2 := nSub N2 (news' := (e, excO 45 t2 none) :: (t2, tupO [.str x tx] 0) :: news) (fun p hp => by
      simp only [List.mem_cons] at hp ⊢
      rcases hp with z | z | z <;> simp [z]);
    (try k_fold))
  k_with "my set" => k_dflt (first
    | (refine' exc_set0 (l := [45, 32]) ?k1 ?k2 ?k3 hne2 ?k4 ?k5 ?k6 ?k7 ?k8 ?k9 ?_; (case k1 => k_asm); (case k2 => k_asm); (case k3 => k_asm); (case k4 => k_is); (case k5 => rfl); (case k6 => rfl); (case k7 => k_is); (case k8 => k_is); (case k9 => k_is); k_whole; intro dx tk2 h3 F3 N3 l5 l6; (try k_fold))
    | (refine' exc_set1 (l := [45, 32]) ?k1 ?k2 ?k3 ?k10 ?k11 ?k4 ?k5 ?k6 ?k7 ?k8 ?k9 ?k12 ?k13 ?k14 ?_; (case k1 => k_asm); (case k2 => k_asm); (case k3 => k_asm); (case k4 => k_is); (case k5 => rfl); (case k6 => rfl); (case k7 => k_is); (case k8 => k_is); (case k9 => k_is); (case k10 => assumption); (case k11 => exact fun p hp => Nat.ne_of_lt (l6 p hp)); (case k12 => rfl); (case k13 => exact fun _ => rfl); (case k14 => exact fun _ => Nat.le_of_ble_eq_true rfl); k_whole; intro tk3 h4 F4 N4; (try k_fold)))
  k_steps
  k_with_none
  refine hret _ _ dx _ _ (by k_asm) (nSub (by k_asm) (fun p hp => ?_)) (fun p hp => hne2 p (List.mem_cons_of_mem _ hp)) (fun p hp => Nat.ne_of_lt (l4 p (List.mem_cons_of_mem _ hp)))
  simp only [List.mem_cons] at hp ⊢
  rcases hp with z | z | z <;> simp [z]
end
end Mine
end
section
open PySem PySem.W PySem.Spec PySem.Calls PyProof.Rows
namespace Mine
section
variable {prog : Program} {w : World} {A : Around} {E : Value → Shared → Prop} {s : Shared} {env : Env} {h₀ : Heap} {x : Str} {body : List Stmt} {Q : Flow → Shared → Prop}
def OnceEnd (h₀ : Heap) (L : Addr) (own : List (Addr × Obj)) (s : Shared) (Q : Shared → Prop) (s₂ : Shared) : Prop :=
  ∃ h' tk m' nx, s₂ = { s with heap := h', toks := tk } ∧ Fr h₀ L h' m' ∧ News h₀ L h' nx ∧ News h₀ L h' own ∧ OwnOff own (nx.map (·.1)) ∧ ∀ h'' tk'', Fr h₀ L h'' m' → News h₀ L h'' nx → Q { s with heap := h'', toks := tk'' }
def OncePost (h₀ : Heap) (L : Addr) (own : List (Addr × Obj)) (s : Shared) (Q : Flow → Shared → Prop) (f : Flow) (s₂ : Shared) : Prop :=
  match f with
  | .ret v => Q (.ret v) s₂
  | .brk => Q .next s₂
  | _ => OnceEnd h₀ L own s (Q .next) s₂
/-- a loop over a made tuple of one item -/
theorem tup_once {D : Addr} {y : Value} {n : Nat} {m : Str → Option Value} {news : List (Addr × Obj)} (hh : A.handled = none) (F : Fr h₀ env.locals s.heap m) (N : News h₀ env.locals s.heap ((D, tupO [y] n) :: news)) (hlt : ∀ p ∈ news, p.1 < D)
    (turn : ∀ h tk own, OwnOff own (news.map (·.1)) → Fr h₀ env.locals h (fun z => if z = x then some y else m z) → News h₀ env.locals h (news ++ own) →
      wpAny (model prog w) A (execs body env) (OncePost h₀ env.locals own s Q) E { s with heap := h, toks := tk }) :
    wpAny (model prog w) A (pyIter (.ref D)) (fun it s₂ => LoopAtV prog w A h₀ env x body Q E it s₂) E s := by
  have hT : IsTup s.heap D [y].toArray := N.isTup List.mem_cons_self
  have hT' : s.heap.IsTuple D [y].toArray := hT
  have hDL : D < s.heap.objs.size := by obtain ⟨_, e, _⟩ := hT; exact Heap.lt_size e
  have N0 : News h₀ env.locals s.heap news := fun p hp => N p (List.mem_cons_of_mem _ hp)
  refine wpAny_pyIter_tuple hT' ?_
  refine ⟨s.heap.objs.size, [s.heap.objs.size, D], [s.heap.objs.size], 1, _, _, m, news, fun i m₁ nx => if i = 0 then m₁ = m ∧ nx = news else ∀ h'' tk'', Fr h₀ env.locals h'' m₁ → News h₀ env.locals h'' nx → Q .next { s with heap := h'', toks := tk'' }, rfl, Walks.tuple hh _ D (Nat.ne_of_lt hDL) [y].toArray, ?_, ?_, ?_,
    ⟨⟨_, Heap.get?_push_size _ rfl, rfl, rfl⟩, hT'.at fun o e => Heap.get?_push_of_some _ e⟩, F.push _, fun p hp => ⟨Heap.get?_push_of_some _ (N0 p hp).1, (N0 p hp).2⟩, by simp, ?_, ?_⟩
  · intro hm
    rcases List.mem_cons.mp hm with e | hm
    · exact absurd F.ns.lt (e ▸ Nat.lt_irrefl _)
    · exact F.tup_ne hT (List.mem_singleton.mp hm).symm
  · intro b hb
    rw [List.mem_singleton.mp hb]
    exact Heap.get?_none_of_le (Nat.le_of_lt (Nat.lt_of_le_of_lt F.above F.ns.lt))
  · intro p hp hI
    exact absurd (Heap.lt_size (N0 p hp).1) ((List.mem_singleton.mp hI) ▸ Nat.lt_irrefl _)
  · rintro i v m₁ news₁ s₁ own ⟨h, tk, rfl⟩ hi hP hJ hoff hown hget hall hst F₁ N₁
    have hi0 : i = 0 := by omega
    subst hi0
    simp only [if_true] at hJ
    obtain ⟨rfl, rfl⟩ := hJ
    have hv : v = y := by simpa using hP.symm
    subst hv
    have hO : OwnOff own (news₁.map (·.1)) := by
      intro p hp b hb e
      obtain ⟨q, hq, rfl⟩ := List.mem_map.mp hb
      have h1 := hown p hp
      rw [e] at h1
      rcases List.mem_cons.mp h1 with h2 | h2
      · exact hoff q hq (h2 ▸ List.mem_singleton.mpr rfl)
      · exact absurd (hlt q hq) (List.mem_singleton.mp h2 ▸ Nat.lt_irrefl _)
    refine wpAny_mono (turn h tk own hO F₁ (fun p hp => N₁ p ((List.mem_append.mp hp).elim (fun h => List.mem_append.mpr (.inr h)) fun h => List.mem_append.mpr (.inl h)))) (fun f s₂ p => ?_) fun _ _ e => e
    have hIo : ∃ o, (s.heap.objs.size, o) ∈ own := by
      obtain ⟨o, ho, _⟩ := hst.1
      exact ⟨o, hall _ (by simp) (Heap.get?_none_of_le (Nat.le_of_lt (Nat.lt_of_le_of_lt F.above F.ns.lt))) o ho⟩
    have fin : OnceEnd h₀ env.locals own s (Q .next) s₂ → LoopStepU h₀ env.locals [s.heap.objs.size] own (fun m₁ nx => if 0 + 1 = 0 then m₁ = m₁ ∧ nx = news₁ else ∀ h'' tk'', Fr h₀ env.locals h'' m₁ → News h₀ env.locals h'' nx → Q .next { s with heap := h'', toks := tk'' }) { s with heap := h, toks := tk } .next s₂ := by
      rintro ⟨h', tk', m', nx, rfl, F', N', No, ha, hq⟩
      refine ⟨rfl, h', tk', m', nx, rfl, F', fun p hp => (List.mem_append.mp hp).elim (No p) (N' p), fun p hp hI => ?_, by simpa using hq⟩
      obtain ⟨o, ho⟩ := hIo
      exact ha _ ho p.1 (List.mem_map.mpr ⟨p, hp, rfl⟩) (List.mem_singleton.mp hI).symm
    cases f with
    | ret v => exact p
    | brk => exact p
    | next => exact fin p
    | cont => exact fin p
  · intro h' tk m' news' F' N' _ hJ
    simp only [Nat.one_ne_zero, if_false] at hJ
    exact hJ h' tk F' N'
end
theorem off_app {own tl l : List (Addr × Obj)} {ta : Addr} (h1 : ∀ p ∈ tl, p.1 ≠ ta) (h2 : OwnOff own (l.map (·.1))) (h3 : ta ∈ l.map (·.1)) : ∀ p ∈ tl ++ own, p.1 ≠ ta := fun p hp =>
  (List.mem_append.mp hp).elim (h1 p) fun h => h2 p h _ h3
end Mine
end
section
open PySem PySem.W PySem.Spec PySem.Calls PyProof.Rows
namespace Mine
/-- the tasks that wait: each a node that is to be put together again; the heads from the innermost on -/
inductive UpsIn (news : List (Addr × Obj)) : List Value → List Str → Prop where
  | nil : UpsIn news [] []
  | snoc {u a b : Addr} {v : Value} {k : Int} {tk t t' : Tok} {n1 n2 n3 : Nat} {x : Str} {us : List Value} {xs : List Str} : (u, tupO [.bool true, .ref a, .int k tk] n1) ∈ news → (a, tupO [.str (Str.ofString "expr") t, .str x t', .ref b] n2) ∈ news →
      (b, tupO [v] n3) ∈ news → UpsIn news us xs → UpsIn news (us ++ [.ref u]) (x :: xs)
theorem UpsIn.mono {news news' : List (Addr × Obj)} {us : List Value} {xs : List Str} (h : UpsIn news us xs) (hs : ∀ p ∈ news, p ∈ news') : UpsIn news' us xs := by
  induction h with
  | nil => exact .nil
  | snoc h1 h2 h3 _ ih => exact .snoc (hs _ h1) (hs _ h2) (hs _ h3) ih
theorem UpsIn.length {news : List (Addr × Obj)} {us : List Value} {xs : List Str} (h : UpsIn news us xs) : us.length = xs.length := by
  induction h with
  | nil => rfl
  | snoc _ _ _ _ ih => simp [ih]

def runStored : List Str := [Str.ofString "is_ready", Str.ofString "node", Str.ofString "level", Str.ofString "many", Str.ofString "kids", Str.ofString "here", Str.ofString "part"]
structure RunC (ta : Addr) (fx : List (Addr × Obj)) (hs : List Str) (m₀ : Str → Option Value) (m : Str → Option Value) (nx : List (Addr × Obj)) (da : Addr) (us ds : List Value) (nT nD : Nat) (tl : List (Addr × Obj)) (xs ys : List Str) (u : Str → Option Value) : Prop where
  led : nx = (ta, listOf us.toArray nT) :: (da, listOf ds.toArray nD) :: tl
  ne : @Ne Nat da ta
  offT : ∀ p ∈ tl, p.1 ≠ ta
  offD : ∀ p ∈ tl, p.1 ≠ da
  fix : ∀ p ∈ fx, p ∈ tl
  path : xs.reverse ++ ys = hs
  map : m = fun z => if z = Str.ofString "done" then some (.ref da) else if runStored.contains z = true then u z else m₀ z
def RunJ (ta : Addr) (fx : List (Addr × Obj)) (hs : List Str) (m₀ : Str → Option Value) (n : Nat) (m : Str → Option Value) (nx : List (Addr × Obj)) : Prop :=
  ∃ (da : Addr) (us ds : List Value) (nT nD : Nat) (tl : List (Addr × Obj)) (xs ys : List Str) (u : Str → Option Value), RunC ta fx hs m₀ m nx da us ds nT nD tl xs ys u ∧
    ((∃ (d : Addr) (v : Value) (ti : Tok) (nd : Nat) (us' : List Value), us = us' ++ [.ref d] ∧ ds = [] ∧ (d, tupO [.bool false, v, .int (xs.length : Int) ti] nd) ∈ tl ∧ UpsIn tl us' xs ∧ ChainIn tl v ys ∧ n = 2 * ys.length + xs.length + 1) ∨
     (∃ v : Value, ds = [v] ∧ UpsIn tl us xs ∧ ChainIn tl v ys ∧ hs.length ≤ 200 ∧ n = xs.length))

theorem run_start {ta da d : Addr} {fx : List (Addr × Obj)} {hs : List Str} {m₀ : Str → Option Value} {v : Value} {tk : Tok} {nT nD nd : Nat} (hta : d < ta ∧ AllLt ta fx) (hda : ta < da ∧ d < da ∧ AllLt da fx) (hC : ChainIn fx v hs) (hm : m₀ (Str.ofString "done") = some (.ref da)) :
    RunJ ta fx hs m₀ (2 * hs.length + 1) m₀ ((ta, listOf [.ref d].toArray nT) :: (da, listOf [].toArray nD) :: (d, tupO [.bool false, v, .int 0 tk] nd) :: fx) := by
  refine ⟨da, [.ref d], [], nT, nD, _, [], hs, m₀, ⟨rfl, Nat.ne_of_gt hda.1, ?_, ?_, fun p hp => List.mem_cons_of_mem _ hp, rfl, mapW hm fun _ _ _ => rfl⟩, .inl ⟨d, v, tk, nd, [], rfl, rfl, List.mem_cons_self, .nil, hC.mono fun p hp => List.mem_cons_of_mem _ hp, rfl⟩⟩
  · intro p hp
    rcases List.mem_cons.mp hp with e | hp
    · rw [e]; exact Nat.ne_of_lt hta.1
    · exact Nat.ne_of_lt (tb_ltOf hta.2 p hp)
  · intro p hp
    rcases List.mem_cons.mp hp with e | hp
    · rw [e]; exact Nat.ne_of_lt hda.2.1
    · exact Nat.ne_of_lt (tb_ltOf hda.2.2 p hp)
theorem run_led {g h : Heap} {L : Addr} {a b c d : Addr × Obj} {fx : List (Addr × Obj)} (N : News g L h (a :: b :: c :: d :: fx)) : News g L h (c :: b :: d :: fx) := nSub N fun p hp => by
  simp only [List.mem_cons] at hp ⊢
  rcases hp with e | e | e | e <;> simp [e]


theorem map_done {da : Addr} {u m₀ mm : Str → Option Value} {da₀ : Addr} (h1 : mm (Str.ofString "done") = some (.ref da)) (h2 : ∀ z, runStored.contains z = false → z ≠ Str.ofString "done" → mm z = m₀ z) :
    mm = fun z => if z = Str.ofString "done" then some (.ref da) else if runStored.contains z = true then mm z else m₀ z :=
  mapW h1 fun z h3 h4 => h2 z h4 h3
theorem run_off {z y : Str} (h : runStored.contains z = false) (hy : runStored.contains y = true) : z ≠ y := fun e => by rw [e, hy] at h; cases h

section
variable {s : Shared} {h₀ h' : Heap} {L ta da : Addr} {fx tl : List (Addr × Obj)} {hs xs ys : List Str} {m₀ mm : Str → Option Value} {us : List Value} {v : Value} {x : Str} {nT nD nn tk : Nat}
theorem up_end {D D1 D2 D3 l' : Addr} {k3 k4 oda : Obj} {t1 t2 : Tok} {n1 n2 n3 : Nat} (F : Fr h₀ L h' mm)
    (N : News h₀ L h' ((D, tupO [.str (Str.ofString "expr") t1, .str x t2, .ref D1] n1) :: (D1, tupO [v] n2) :: (D2, listOf [.ref D].toArray n3) :: (D3, k3) :: (l', k4) :: (ta, listOf us.toArray nT) :: (da, oda) :: tl))
    (hD : D1 < D ∧ D2 < D ∧ D3 < D ∧ l' < D ∧ ta < D ∧ da < D ∧ AllLt D tl) (hD1 : D2 < D1 ∧ D3 < D1 ∧ l' < D1 ∧ ta < D1 ∧ da < D1 ∧ AllLt D1 tl) (hD2 : D3 < D2 ∧ l' < D2 ∧ ta < D2 ∧ da < D2 ∧ AllLt D2 tl)
    (hoT : ∀ p ∈ tl, p.1 ≠ ta) (hfx : ∀ p ∈ fx, p ∈ tl) (hpath : (x :: xs).reverse ++ ys = hs) (hU : UpsIn tl us xs) (hC : ChainIn tl v ys) (h200 : hs.length ≤ 200) (hn : xs.length < nn)
    (hm1 : mm (Str.ofString "done") = some (.ref D2)) (hm2 : ∀ z, z ≠ Str.ofString "done" → runStored.contains z = false → mm z = m₀ z) : WlEnd h₀ L s (RunJ ta fx hs m₀) nn { s with heap := h', toks := tk } := by
  refine ⟨h', tk, mm, (ta, listOf us.toArray nT) :: (D2, listOf [.ref D].toArray n3) :: ((D, tupO [.str (Str.ofString "expr") t1, .str x t2, .ref D1] n1) :: (D1, tupO [v] n2) :: tl), xs.length, rfl, F, nSub N ?_, hn,
    D2, us, [.ref D], nT, n3, _, xs, x :: ys, mm, ⟨rfl, ?_, ?_, ?_, ?_, ?_, mapW hm1 hm2⟩, .inr ⟨_, rfl, hU.mono ?_, ?_, h200, rfl⟩⟩
  · intro p hp
    simp only [List.mem_cons] at hp ⊢
    rcases hp with e | e | e | e | e <;> simp [e]
  · exact Nat.ne_of_gt hD2.2.2.1
  · intro p hp
    rcases List.mem_cons.mp hp with e | hp
    · rw [e]; exact Nat.ne_of_gt hD.2.2.2.2.1
    rcases List.mem_cons.mp hp with e | hp
    · rw [e]; exact Nat.ne_of_gt hD1.2.2.2.1
    exact hoT p hp
  · intro p hp
    rcases List.mem_cons.mp hp with e | hp
    · rw [e]; exact Nat.ne_of_gt hD.2.1
    rcases List.mem_cons.mp hp with e | hp
    · rw [e]; exact Nat.ne_of_gt hD1.1
    exact Nat.ne_of_lt (tb_ltOf hD2.2.2.2.2 p hp)
  · exact fun p hp => List.mem_cons_of_mem _ (List.mem_cons_of_mem _ (hfx p hp))
  · simpa using hpath
  · exact fun p hp => List.mem_cons_of_mem _ (List.mem_cons_of_mem _ hp)
  · exact .cons List.mem_cons_self (List.mem_cons_of_mem _ List.mem_cons_self) (hC.mono fun p hp => List.mem_cons_of_mem _ (List.mem_cons_of_mem _ hp))
theorem leaf_end {l' : Addr} {k4 : Obj} (F : Fr h₀ L h' mm) (N : News h₀ L h' ((l', k4) :: (ta, listOf us.toArray nT) :: (da, listOf [v].toArray nD) :: tl)) (hne : @Ne Nat da ta)
    (hoT : ∀ p ∈ tl, p.1 ≠ ta) (hoD : ∀ p ∈ tl, p.1 ≠ da) (hfx : ∀ p ∈ fx, p ∈ tl) (hpath : xs.reverse ++ ys = hs) (hU : UpsIn tl us xs) (hC : ChainIn tl v ys) (h200 : hs.length ≤ 200) (hn : xs.length < nn)
    (hm1 : mm (Str.ofString "done") = some (.ref da)) (hm2 : ∀ z, z ≠ Str.ofString "done" → runStored.contains z = false → mm z = m₀ z) : WlEnd h₀ L s (RunJ ta fx hs m₀) nn { s with heap := h', toks := tk } :=
  ⟨h', tk, mm, _, xs.length, rfl, F, fun p hp => N p (List.mem_cons_of_mem _ hp), hn, da, us, [v], nT, nD, tl, xs, ys, mm, ⟨rfl, hne, hoT, hoD, hfx, hpath, mapW hm1 hm2⟩, .inr ⟨_, rfl, hU, hC, h200, rfl⟩⟩
theorem node_end {Q : Shared → Prop} {D1 D2 l' a b : Addr} {k4 : Obj} {t1 t2 ta1 ta2 : Tok} {n1 n2 na nb : Nat} {own : List (Addr × Obj)} {s₁ : Shared} (F : Fr h₀ L h' mm)
    (N : News h₀ L h' ((D2, tupO [.bool false, v, .int ((xs.length : Int) + 1) t2] n2) :: (D1, tupO [.bool true, .ref a, .int (xs.length : Int) t1] n1) :: (l', k4) :: (ta, listOf (us ++ [Value.ref D1] ++ [Value.ref D2]).toArray nT) :: (da, listOf [].toArray nD) :: (tl ++ own)))
    (hD2 : D1 < D2 ∧ l' < D2 ∧ ta < D2 ∧ da < D2 ∧ AllLt D2 (tl ++ own)) (hD1 : l' < D1 ∧ ta < D1 ∧ da < D1 ∧ AllLt D1 tl) (hO : OwnOff own (((D1, tupO [.bool true, .ref a, .int (xs.length : Int) t1] n1) :: (l', k4) :: (ta, listOf (us ++ [Value.ref D1]).toArray nb) :: (da, listOf [].toArray nD) :: tl).map (·.1)))
    (hne : @Ne Nat da ta) (hoT : ∀ p ∈ tl, p.1 ≠ ta) (hoD : ∀ p ∈ tl, p.1 ≠ da) (hfx : ∀ p ∈ fx, p ∈ tl) (hpath : xs.reverse ++ x :: ys = hs) (hU : UpsIn tl us xs)
    (hx : (a, tupO [.str (Str.ofString "expr") ta1, .str x ta2, .ref b] na) ∈ tl) {nv : Nat} (hb : (b, tupO [v] nv) ∈ tl) (hC : ChainIn tl v ys)
    (hn : 2 * ys.length + (xs.length + 1) + 1 < nn) (hm1 : mm (Str.ofString "done") = some (.ref da)) (hm2 : ∀ z, z ≠ Str.ofString "done" → runStored.contains z = false → mm z = m₀ z)
    (hq : ∀ h'' tk'', WlEnd h₀ L s (RunJ ta fx hs m₀) nn { s with heap := h'', toks := tk'' } → Q { s₁ with heap := h'', toks := tk'' }) : OnceEnd h₀ L own s₁ Q { s₁ with heap := h', toks := tk } := by
  refine ⟨h', tk, mm, (ta, listOf ((us ++ [Value.ref D1]) ++ [Value.ref D2]).toArray nT) :: (da, listOf [].toArray nD) :: ((D2, tupO [.bool false, v, .int ((xs.length : Int) + 1) t2] n2) :: (D1, tupO [.bool true, .ref a, .int (xs.length : Int) t1] n1) :: tl), rfl, F, nSub N ?_, nSub N ?_, ?_, ?_⟩
  · intro p hp
    simp only [List.mem_cons, List.mem_append] at hp ⊢
    rcases hp with e | e | e | e | e <;> simp [e]
  · intro p hp
    simp only [List.mem_cons, List.mem_append]
    simp [hp]
  · intro p hp c hc
    simp only [List.map_cons, List.mem_cons] at hc
    have h1 : p.1 < D2 := tb_ltOf hD2.2.2.2.2 p (List.mem_append_right _ hp)
    have h2 : ∀ c ∈ (((D1, tupO [.bool true, .ref a, .int (xs.length : Int) t1] n1) :: (l', k4) :: (ta, listOf (us ++ [Value.ref D1]).toArray nb) :: (da, listOf [].toArray nD) :: tl).map (·.1)), p.1 ≠ c := hO p hp
    simp only [List.map_cons, List.mem_cons] at h2
    rcases hc with e | e | e | e | e
    · exact h2 _ (.inr (.inr (.inl e)))
    · exact h2 _ (.inr (.inr (.inr (.inl e))))
    · rw [e]; exact Nat.ne_of_lt h1
    · exact h2 _ (.inl e)
    · exact h2 _ (.inr (.inr (.inr (.inr e))))
  · intro h'' tk'' F' N'
    refine hq _ _ ⟨h'', tk'', mm, _, 2 * ys.length + (xs.length + 1) + 1, rfl, F', N', hn, da, (us ++ [Value.ref D1]) ++ [Value.ref D2], [], nT, nD, _, x :: xs, ys, mm, ⟨rfl, hne, ?_, ?_, ?_, ?_, mapW hm1 hm2⟩, .inl ⟨D2, v, t2, n2, us ++ [Value.ref D1], rfl, rfl, ?_, ?_, ?_, ?_⟩⟩
    · intro p hp
      rcases List.mem_cons.mp hp with e | hp
      · rw [e]; exact Nat.ne_of_gt hD2.2.2.1
      rcases List.mem_cons.mp hp with e | hp
      · rw [e]; exact Nat.ne_of_gt hD1.2.1
      exact hoT p hp
    · intro p hp
      rcases List.mem_cons.mp hp with e | hp
      · rw [e]; exact Nat.ne_of_gt hD2.2.2.2.1
      rcases List.mem_cons.mp hp with e | hp
      · rw [e]; exact Nat.ne_of_gt hD1.2.2.1
      exact hoD p hp
    · exact fun p hp => List.mem_cons_of_mem _ (List.mem_cons_of_mem _ (hfx p hp))
    · simpa using hpath
    · have e : (((x :: xs).length : Nat) : Int) = (xs.length : Int) + 1 := by simp
      rw [e]
      exact List.mem_cons_self
    · exact .snoc (List.mem_cons_of_mem _ List.mem_cons_self) (List.mem_cons_of_mem _ (List.mem_cons_of_mem _ hx)) (List.mem_cons_of_mem _ (List.mem_cons_of_mem _ hb)) (hU.mono fun p hp => List.mem_cons_of_mem _ (List.mem_cons_of_mem _ hp))
    · exact hC.mono fun p hp => List.mem_cons_of_mem _ (List.mem_cons_of_mem _ hp)
    · simp
end
end Mine
end
section
open PySem PySem.W PySem.Spec PySem.Calls PyProof.Rows
namespace Mine
theorem raiseS_sub {base G : Heap} {l : List Env} {e t : Addr} {cls : Value} {vs : List Value} {news news' : List (Addr × Obj)} {h : Heap} (R : RaisedS base G l e cls t vs news h) (hs : ∀ p ∈ news', p ∈ news) : RaisedS base G l e cls t vs news' h := by
  obtain ⟨⟨B, hB, h1, hl, hfl, hnew⟩, htup⟩ := R
  exact ⟨⟨B, hB, h1, fun q hq => hl q (hs q hq), hfl, hnew⟩, htup⟩
theorem raiseK_sub {base : Heap} {l : List Env} {e t : Addr} {cls : Value} {vs : List Value} {news news' : List (Addr × Obj)} {h : Heap} (R : RaisedK base l e cls t vs news h) (hs : ∀ p ∈ news', p ∈ news) : RaisedK base l e cls t vs news' h := by
  obtain ⟨⟨B, hB, hl, hfl, hnew⟩, htup⟩ := R
  exact ⟨⟨B, hB, fun q hq => hl q (hs q hq), hfl, hnew⟩, htup⟩
section
local macro_rules | `(tactic| k_room) => `(tactic| ktr_room)
local macro_rules | `(tactic| k_all) => `(tactic| assumption)
local macro_rules | `(tactic| k_mem) => `(tactic| (refine memL ?_; ktr_member))
local macro_rules | `(tactic| walk_at "exec While Compare cons nil") => `(tactic| k_extra "my while")
local macro_rules | `(tactic| walk_at "compareOp NotEq ref ref") => `(tactic| k_extra "my ne")
local macro_rules | `(tactic| walk_at "call builtin:list.pop") => `(tactic| k_extra "my pop")
local macro_rules | `(tactic| walk_at "call ref") => `(tactic| k_extra "my call")
local macro_rules | `(tactic| walk_at "call builtin:list.append") => `(tactic| k_extra "my append")
local macro_rules | `(tactic| walk_at "leaving ref") => `(tactic| k_extra "my leave")
local macro_rules | `(tactic| walk_at "exec For Name Subscript cons nil") => `(tactic| k_extra "my for")
local macro_rules | `(tactic| walk_at "subscriptTail") => `(tactic| k_extra "my rev")
local macro_rules | `(tactic| walk_at "pyIter ref") => `(tactic| k_extra "my iter")
local macro_rules | `(tactic| walk_at "exec Raise some none") => `(tactic| k_extra "my raise")
variable {w : World} {p : Program} {loose : List Str} {mean : ExcName → Option Value} {mg mb : Str → Option Value} {dp un : Nat} {gd : Option (List Code)} {cn : Str} {cs : Scope} {a : Addr} {ccd : Value} {cl : List (Str × Addr)} {outer : List Env} {A₀ : Around} {base h₀ : Heap} {L : Addr} {m : Str → Option Value} {fx : List (Addr × Obj)} {s : Shared}
  {Q E : Value → Shared → Prop}
set_option maxRecDepth 100000 in
set_option maxHeartbeats 8000000 in
theorem run {se sd : Addr} {t1 t2 t3 : Tok} {mv sv fv v : Value} {k : Nat} {hs : List Str}
    (B : Below A₀ base outer h₀) (F : Fr h₀ L s.heap m) (X : (kk.heap_1 w.params).In h₀) (N : News h₀ L s.heap fx) (T : Top p loose mean mg mb h₀) (hk : cs.kind = .function)
    (hse : (se, instObj 508 sd) ∈ fx) (hsd : (sd, dictOf [⟨PyData.keyHash w.params (Str.ofString "macros"), .str (Str.ofString "macros") t1, mv⟩, ⟨PyData.keyHash w.params (Str.ofString "supply"), .str (Str.ofString "supply") t2, sv⟩, ⟨PyData.keyHash w.params (Str.ofString "fuel"), .str (Str.ofString "fuel") t3, fv⟩] k) ∈ fx)
    (hC : ChainIn fx v hs) (hH : Heads hs) (hlen : hs.length < 1000) (hdp : dp + 20 < recursionLimit) (hu : un + 600 < cLine)
    (hret : ∀ v' tl' h' tk', hs.length ≤ 200 → ChainIn tl' v' hs → (∀ p ∈ fx, p ∈ tl') → Fr h₀ L h' m → News h₀ L h' tl' → Q v' { s with heap := h', toks := tk' })
    (hraise : ∀ e t vs G h' tk', 200 < hs.length → Fr h₀ L G m → RaisedS base G (envX cn cs L a ccd cl :: outer) e (.ref 45) t vs fx h' → RaisedK base (envX cn cs L a ccd cl :: outer) e (.ref 45) t vs fx h' → G.UpToSlots h' → E (.ref e) { s with heap := h', toks := tk' }) :
    wpAny (model PySem.Challenge.rw_sf0043_01.row.prog w) (ktrTop dp un gd cn cs L a ccd cl outer) (call (.ref 505) [.ref se, v]) Q E s := by
  w_top off
  revert X
  k_fill
  intro X
  have hv : handedIn v = true := by cases hC <;> rfl
  refine wpAny_call ?_
  k_dflt ktr_enter
  k_with_none
  k_with "my while" => k_dflt (
    (rename Fr _ _ _ _ => hF); (rename News _ _ _ _ => hN);
    with_unfolding_all refine' wl_inv (RunJ _ fx hs) (2 * hs.length + 1) hF (run_led hN) (run_start (by assumption) (by assumption) hC (by with_unfolding_all rfl)) ?_;
    intro n m₁ nx h tk hJ F1 N1;
    clear hF hN;
    unfold RunJ at hJ;
    obtain ⟨da, us, ds, nT, nD, tl, xs, ys, u, hc, hcase⟩ := hJ;
    obtain ⟨rfl, hne, hoT, hoD, hfx, hpath, rfl⟩ := hc;
    have hse' := hfx _ hse;
    have hsd' := hfx _ hsd;
    rcases hcase with ⟨d, v, ti, nd, us', rfl, rfl, hdm, hU, hCh, rfl⟩ | ⟨v, rfl, hU, hCh, h200, rfl⟩;
    (all_goals (
      have hL := hU.length
      have hxs : xs.length < 1000 := (by have e := congrArg List.length hpath; simp at e; omega)));
    rcases hCh with ⟨hm1⟩ | ⟨hm1, hm2, hr⟩;
    rotate_left 2;
    ((rcases hU with _ | ⟨hm1, hm2, hm3, hU'⟩) <;> (try simp only [List.length_append, List.length_cons, List.length_nil] at hL hxs));
    (all_goals (try k_fold)))
  k_with "my for" => k_dflt (
    (rename Fr _ _ _ _ => lF'); (with_unfolding_all refine' For_invVF lF' ?k1 ?k2 ?_; (case k1 => exact rfl); (case k2 => exact rfl); k_whole))
  k_with "my rev" => k_dflt (
    (with_reducible show wpAny _ _ (subscriptTail _ (PySem.Expr.Slice none none (some _) _) (Value.ref _) (Value.ref _)) _ _ _);
    ((refine' tup_rev1 ?k1 ?k2 ?k3 ?_ ?k4 ?k5; (case k1 => k_asm); (case k2 => k_asm); (case k3 => exact News.isTup (by k_asm) (by k_mem)); (case k4 => with_unfolding_all rfl); (case k5 => (intro _; with_unfolding_all rfl)); k_whole); intro D hD FD ND hlt))
  k_with "my iter" => k_dflt (
    (refine' tup_once ?k1 FD ND hlt ?_; (case k1 => with_unfolding_all rfl); k_whole); intro h tk own hO F1 N1; (simp only [List.cons_append] at N1); (have hoTO := off_app hoT hO (by simp)); (try k_fold))
  k_with "my ne" => k_dflt (first
    | (refine' ne_nil_true ?k1 ?k2 ?k3 ?k4 ?k5 ?_; (case k1 => k_asm); (case k2 => k_mem); (case k3 => k_mem); (case k4 => simp); (case k5 => ktr_units); k_whole)
    | (refine' ne_nil_false ?k1 ?k2 ?k3 ?k5 ?_; (case k1 => k_asm); (case k2 => k_mem); (case k3 => k_mem); (case k5 => ktr_units); k_whole))
  k_with "my pop" => k_dflt (
    (refine' pop_snoc ?k1 ?k2 ?k3 ?k4 ?_; (case k1 => k_asm); (case k2 => k_asm); (case k3 => k_upd); (case k4 => omega); k_whole);
    intro h2 F2 N2; (try k_sweep))
  k_with "my append" => k_dflt (
    (refine' append_K ?k1 ?k2 ?k3 ?_ ?z; (case k1 => k_asm); (case k2 => k_asm); (case k3 => k_upd); (case z => (rw [sizeLine_eq]; simp; try omega)); k_whole); intro h' F' N'; (try k_sweep))
  k_with "my raise" => k_dflt (
    (refine' Raise_obj (C := 45) (K := Mine.kk.heap_1 w.params) ?k1 ?k2 ?k3 ?_; (case k1 => rfl); (case k2 => k_is); (case k3 => k_is); k_whole); (try k_fold))
  k_with "my call" => k_dflt (first
    | (refine' settled_leaf ?k1 ?k2 ?k3 ?k4 ?k5 ?k6 ?k7 ?k8 ?k9 ?k10 ?_; (case k1 => k_asm); (case k2 => k_asm); (case k3 => k_asm); (case k4 => k_asm); (case k5 => k_asm); (case k6 => exact rfl); (case k7 => k_mem); (case k8 => k_mem); (case k9 => ktr_room); (case k10 => ktr_units); k_whole; intro h3 tk3 F3 N3; (try k_fold))
    | (refine' settled ?k1 ?k2 ?k3 ?k4 ?k5 ?k6 ?k7 ?k8 ?k11 ?k12 ?k9 ?k10 ?_; (case k1 => k_asm); (case k2 => k_asm); (case k3 => k_asm); (case k4 => k_asm); (case k5 => k_asm); (case k6 => exact rfl); (case k7 => k_mem); (case k8 => k_mem); (case k11 => k_mem); (case k12 => exact hH _ (by rw [← hpath]; simp)); (case k9 => ktr_room); (case k10 => ktr_units); k_whole; intro h3 tk3 F3 N3; (try k_fold))
    | (refine' fault ?k1 ?k2 ?k3 ?k4 ?k5 ?k6 ?k9 ?k10 ?_; (case k1 => k_asm); (case k2 => k_asm); (case k3 => k_asm); (case k4 => k_asm); (case k5 => k_asm); (case k6 => exact rfl); (case k9 => ktr_room); (case k10 => ktr_units); k_whole; intro e5 t5 dx5 h5 tk5 F5 N5 he5 ht5; refine ⟨e5, _, _, rfl, (N5 _ List.mem_cons_self).1, rfl, rfl, rfl, Frag.In.keeps (by k_asm) F5.keep, ?_⟩))
  k_with "my leave" => k_dflt (
    (refine' leave_obj ?k1 F5 N5 he5 ht5 ?_; (case k1 => k_asm); k_whole); intro h6 R6 R6' U6; (try dsimp only))
  k_steps
  k_with_none
  · refine hret v tl _ _ h200 (by have e := hpath; simp at e; subst e; exact hCh) hfx (by k_asm) (nSub (by k_asm) fun p hp => ?_)
    simp [hp]
  · exact up_end (by k_asm) (by k_asm) (by assumption) (by assumption) (by assumption) hoT hfx hpath hU' hCh h200 (Nat.lt_succ_self _) (by with_unfolding_all rfl) (fun z h1 h2 => by have h3 : ¬ z ∈ runStored := (by simpa using h2); simp [h1, h3, run_off h2 (y := Str.ofString "kids") (by decide +kernel), run_off h2 (y := Str.ofString "many") (by decide +kernel), run_off h2 (y := Str.ofString "level") (by decide +kernel), run_off h2 (y := Str.ofString "node") (by decide +kernel), run_off h2 (y := Str.ofString "is_ready") (by decide +kernel)])
  · refine hraise _ _ _ _ _ _ (by have e := congrArg List.length hpath; simp at e; omega) (by assumption) (raiseS_sub R6 fun p hp => ?_) (raiseK_sub R6' fun p hp => ?_) U6
    · simp [hfx p hp]
    · simp [hfx p hp]
  · refine leaf_end (ys := []) (by k_asm) (by k_asm) hne hoT hoD hfx hpath hU (.nil hm1) (by have e := congrArg List.length hpath; simp at e; omega) ?_ (by with_unfolding_all rfl) (fun z h1 h2 => by have h3 : ¬ z ∈ runStored := (by simpa using h2); simp [h1, h3, run_off h2 (y := Str.ofString "here") (by decide +kernel), run_off h2 (y := Str.ofString "level") (by decide +kernel), run_off h2 (y := Str.ofString "node") (by decide +kernel), run_off h2 (y := Str.ofString "is_ready") (by decide +kernel)])
    simp
  · refine hraise _ _ _ _ _ _ (by have e := congrArg List.length hpath; simp at e; omega) (by assumption) (raiseS_sub R6 fun p hp => ?_) (raiseK_sub R6' fun p hp => ?_) U6
    · simp [hfx p hp]
    · simp [hfx p hp]
  · rename News _ _ _ _ => hNN
    simp only [List.push_toArray] at hNN
    exact node_end (by k_asm) hNN (by assumption) (by assumption) hO hne hoT hoD hfx hpath hU hm1 hm2 hr (by simp; omega) (by with_unfolding_all rfl) (fun z h1 h2 => by have h3 : ¬ z ∈ runStored := (by simpa using h2); simp [h1, h3, run_off h2 (y := Str.ofString "part") (by decide +kernel), run_off h2 (y := Str.ofString "here") (by decide +kernel), run_off h2 (y := Str.ofString "level") (by decide +kernel), run_off h2 (y := Str.ofString "node") (by decide +kernel), run_off h2 (y := Str.ofString "is_ready") (by decide +kernel)]) fun h2 tk2 e => wpAny_execs_nil (wpAny_execs_nil e)
end
end Mine
end
section
open PySem PySem.W PySem.Spec PySem.Calls PyProof.Rows
namespace Mine
theorem StrVals.snoc {us : List Value} {ns : List Str} (h : StrVals us ns) (f : Str) (t : Tok) : StrVals (us ++ [.str f t]) (ns ++ [f]) := by
  induction h with
  | nil => exact .cons .nil
  | cons _ ih => exact .cons ih
def outs : Nat → List Str
  | 0 => [Str.ofString "x#1", Str.ofString "g#1", Str.ofString "long_one#1"]
  | 1 => [Str.ofString "x#2", Str.ofString "g#2", Str.ofString "long_one#2"]
  | 2 => [Str.ofString "x#3", Str.ofString "g#3", Str.ofString "long_one#3"]
  | 3 => [Str.ofString "x#4", Str.ofString "g#4", Str.ofString "long_one#4"]
  | _ => []
def Told (i : Nat) (ns : List Str) : Prop := ∀ x ∈ ns, ∃ j, j < i ∧ x ∈ outs j
theorem outs_ok : ∀ j, j < 4 → ∀ x ∈ outs j, PyData.strOk x = true := by decide +kernel
theorem outs_ne : ∀ i, i < 4 → ∀ j, j < i → ∀ a ∈ outs j, ∀ b ∈ outs i, (a == b) = false := by decide +kernel
theorem Told.ok {i : Nat} {ns : List Str} (h : Told i ns) (hi : i < 4) : ns.all PyData.strOk = true := by
  rw [List.all_eq_true]
  intro x hx
  obtain ⟨j, hj, hm⟩ := h x hx
  exact outs_ok j (by omega) x hm
theorem Told.any {i : Nat} {ns : List Str} {f : Str} (h : Told i ns) (hi : i < 4) (hf : f ∈ outs i) : (ns.any (· == f)) = false := by
  rw [List.any_eq_false]
  intro x hx
  obtain ⟨j, hj, hm⟩ := h x hx
  rw [outs_ne i hi j hj x hm f hf]
  exact Bool.false_ne_true
theorem Told.snoc {i : Nat} {ns : List Str} {f : Str} (h : Told i ns) (hf : f ∈ outs i) : Told (i + 1) (ns ++ [f]) := fun x hx => by
  rcases List.mem_append.mp hx with e | e
  · obtain ⟨j, hj, hm⟩ := h x e
    exact ⟨j, by omega, hm⟩
  · rw [List.mem_singleton.mp e]
    exact ⟨i, by omega, hf⟩
section
variable {prog : Program} {w : World} {A : Around} {E : Value → Shared → Prop} {Q : Value → Shared → Prop} {s : Shared} {h₀ : Heap} {L a : Addr} {news : List (Addr × Obj)}
theorem in_listStrs {us : List Value} {n i : Nat} {ns : List Str} {x : Str} {t : Tok} (N : News h₀ L s.heap news) (hl : (a, listOf us.toArray n) ∈ news) (hs : StrVals us ns) (ht : Told i ns) (hi : i < 4) (hx : x ∈ outs i)
    (hu : A.units + 1 < cLine) (h : Q (.bool false) s) : wpAny (model prog w) A (compareOp .In (.str x t) (.ref a)) Q E s := by
  obtain ⟨as, ra⟩ := hs.reads (h := s.heap)
  refine SeqAt.in_list_reads (reads_list_at (N _ hl).1 rfl rfl (by simpa using ra)) (Reads.str x t) (strs_lay (ht.ok hi)) (outs_ok i hi x hx) ?_ (by rw [strs_any, ht.any hi hx]; exact h)
  have : (PyData.str x).depth = 0 := rfl
  rw [this, Nat.min_zero]
  exact hu
end
def namesStored : List Str := [Str.ofString "turn", Str.ofString "name", Str.ofString "found", Str.ofString "stem"]
def NamesJ (w : World) (l si dd ta : Addr) (n : Nat) (m₀ : Str → Option Value) (i : Nat) (m₁ : Str → Option Value) (nx : List (Addr × Obj)) : Prop :=
  ∃ (x y mi : Int) (tx ty ti tk : Tok) (us : List Value) (ns : List Str) (nt kd : Nat) (u : Str → Option Value),
    nx = [(l, listOf [.int x tx, .int y ty].toArray n), (ta, listOf us.toArray nt), (si, instObj 305 dd), (dd, dictOf [⟨PyData.keyHash w.params (Str.ofString "many"), .str (Str.ofString "many") tk, .int mi ti⟩] kd)] ∧
    mi = (i : Int) ∧ 0 ≤ x ∧ 0 ≤ y ∧ y < 65371 ∧ StrVals us ns ∧ us.length = i ∧ Told i ns ∧ m₁ = fun z => if namesStored.contains z = true then u z else m₀ z
theorem names_start {w : World} {l si dd ta : Addr} {n nt kd : Nat} {m₀ : Str → Option Value} {x y : Int} {tx ty ti tk : Tok} (hx : 0 ≤ x) (hy : 0 ≤ y) (hy1 : y < 65371) :
    NamesJ w l si dd ta n m₀ 0 m₀ [(l, listOf [.int x tx, .int y ty].toArray n), (ta, listOf [].toArray nt), (si, instObj 305 dd), (dd, dictOf [⟨PyData.keyHash w.params (Str.ofString "many"), .str (Str.ofString "many") tk, .int 0 ti⟩] kd)] :=
  ⟨x, y, 0, tx, ty, ti, tk, [], [], nt, kd, m₀, rfl, rfl, hx, hy, hy1, .nil, rfl, fun _ h => (nomatch h), by funext z; simp⟩
theorem names_turn {w : World} {g h' : Heap} {L l si dd ta : Addr} {n nt kd tk' i : Nat} {m₀ m' : Str → Option Value} {x y mi : Int} {tx ty ti tk : Tok} {us : List Value} {ns : List Str} {f : Str} {tf : Tok} {own ledger : List (Addr × Obj)} {s₁ : Shared} {Q : Flow → Shared → Prop}
    (F : Fr g L h' m') (N : News g L h' ledger)
    (h1 : (l, listOf [.int x tx, .int y ty].toArray n) ∈ ledger) (h2 : (ta, listOf (us ++ [Value.str f tf]).toArray nt) ∈ ledger) (h3 : (si, instObj 305 dd) ∈ ledger) (h4 : (dd, dictOf [⟨PyData.keyHash w.params (Str.ofString "many"), .str (Str.ofString "many") tk, .int mi ti⟩] kd) ∈ ledger) (h5 : ∀ p ∈ own, p ∈ ledger)
    (hO : OwnOff own [l, ta, si, dd]) (hmi : mi = (i : Int) + 1) (hx : 0 ≤ x) (hy : 0 ≤ y) (hy1 : y < 65371) (hS : StrVals us ns) (hlen : us.length = i) (hT : Told i ns) (hf : f ∈ outs i)
    (hm : ∀ z, namesStored.contains z = false → m' z = m₀ z) : RgPost g L (NamesJ w l si dd ta n m₀ (i + 1)) own s₁ Q .next { s₁ with heap := h', toks := tk' } := by
  refine RgEnd.intro [(l, listOf [.int x tx, .int y ty].toArray n), (ta, listOf (us ++ [Value.str f tf]).toArray nt), (si, instObj 305 dd), (dd, dictOf [⟨PyData.keyHash w.params (Str.ofString "many"), .str (Str.ofString "many") tk, .int mi ti⟩] kd)] F N
    ⟨x, y, mi, tx, ty, ti, tk, us ++ [.str f tf], ns ++ [f], nt, kd, m', rfl, by omega, hx, hy, hy1, hS.snoc f tf, by simp [hlen], hT.snoc hf, ?_⟩ hO ?_ h5
  · funext z
    cases h : namesStored.contains z with
    | true => simp
    | false => simp [hm z h]
  · intro p hp
    simp only [List.mem_cons, List.not_mem_nil, or_false] at hp
    rcases hp with e | e | e | e <;> (rw [e]; assumption)
end Mine
end
section
open PySem PySem.W PySem.Spec PySem.Calls PyProof.Rows
namespace Mine
theorem put_many {w : World} {t : Tok} {v v' key : Value} {n : Nat} :
    (putL (Str.ofString "many") (PyData.keyHash w.params (Str.ofString "many")) key v [⟨PyData.keyHash w.params (Str.ofString "many"), .str (Str.ofString "many") t, v'⟩], putN (Str.ofString "many") [⟨PyData.keyHash w.params (Str.ofString "many"), .str (Str.ofString "many") t, v'⟩] n) =
      ([⟨PyData.keyHash w.params (Str.ofString "many"), .str (Str.ofString "many") t, v⟩], n) := by
  have h : (Value.str (Str.ofString "many") t).isStr (Str.ofString "many") = true := by
    show (Str.ofString "many" == Str.ofString "many") = true
    decide +kernel
  simp [putL, putN, h]
theorem nPick3 {g h : Heap} {L : Addr} {q1 q2 : Addr × Obj} {news led : List (Addr × Obj)} (N : News g L h led) (h1 : q1 ∈ led) (h2 : q2 ∈ led) (h3 : ∀ p ∈ news, p ∈ led) : News g L h (q1 :: q2 :: news) := nSub N fun p hp => by
  rcases List.mem_cons.mp hp with e | hp
  · exact e ▸ h1
  rcases List.mem_cons.mp hp with e | hp
  · exact e ▸ h2
  · exact h3 p hp
theorem nRot {g h : Heap} {L : Addr} {l t u i d : Addr × Obj} {own : List (Addr × Obj)} (N : News g L h (l :: t :: u :: i :: d :: own)) : News g L h (d :: i :: l :: u :: own) := nSub N fun p hp => by
  simp only [List.mem_cons] at hp ⊢
  rcases hp with e | e | e | e | e <;> simp [e]
theorem ne_str_eq {prog : Program} {w : World} {A : Around} {Q E : Value → Shared → Prop} {s : Shared} {x y : Str} {t u : Tok} (h : (x != y) = false) (k : Q (.bool false) s) : wpAny (model prog w) A (compareOp .NotEq (.str x t) (.str y u)) Q E s := by
  refine ne_str ?_
  rw [h]
  exact k
def bases : Nat → Str
  | 0 => Str.ofString "x"
  | 1 => Str.ofString "x#4"
  | 2 => Str.ofString "##v#7"
  | 3 => Str.ofString "long_one"
  | _ => Str.ofString "#"
theorem bases0 : bases 0 = Str.ofString "x" := rfl
theorem bases1 : bases 1 = Str.ofString "x#4" := rfl
theorem bases2 : bases 2 = Str.ofString "##v#7" := rfl
theorem bases3 : bases 3 = Str.ofString "long_one" := rfl
theorem bases4 : bases 4 = Str.ofString "#" := rfl
def fOf (r : Nat) (k : Int) : Str :=
  (match r with
    | 0 => { cps := #[120] }
    | 1 => { cps := #[120] }
    | 3 => { cps := #[108, 111, 110, 103, 95, 111, 110, 101] }
    | _ => Str.ofString "g") ++ Str.ofString "#" ++ Str.ofString (toString (k + 1))
structure IsF (r : Nat) (k : Int) (f : Str) : Prop where
  out : f = fOf r k
theorem fOf_mem : ∀ i, i < 4 → ∀ r, r < 5 → fOf r (i : Int) ∈ outs i := by decide +kernel
theorem IsF.mem {r i : Nat} {f : Str} (h : IsF r i f) (hi : i < 4) (hr : r < 5) : f ∈ outs i := h.out ▸ fOf_mem i hi r hr
theorem fOf_len : ∀ i : Nat, i < 4 → ∀ r, r < 5 → (fOf r (i : Int)).length ≤ 20 := by decide +kernel
theorem IsF.len {r i : Nat} {f : Str} (h : IsF r i f) (hi : i < 4) (hr : r < 5) : f.length ≤ sizeLine := Nat.le_trans (h.out ▸ fOf_len i hi r hr) (by rw [sizeLine_eq]; omega)
theorem lt4 {P : Nat → Prop} {i : Nat} (hi : i < 4) (h0 : P 0) (h1 : P 1) (h2 : P 2) (h3 : P 3) : P i := by
  have h : i = 0 ∨ i = 1 ∨ i = 2 ∨ i = 3 := by omega
  rcases h with rfl | rfl | rfl | rfl <;> assumption
section
local macro_rules | `(tactic| k_room) => `(tactic| ktr_room)
local macro_rules | `(tactic| k_all) => `(tactic| assumption)
local macro_rules | `(tactic| k_mem) => `(tactic| (refine memL ?_; ktr_member))
local macro_rules | `(tactic| walk_at "setAttr ref") => `(tactic| k_extra "my set")
variable {w : World} {p : Program} {loose : List Str} {mean : ExcName → Option Value} {mg mb : Str → Option Value} {dp un : Nat} {gd : Option (List Code)} {cn : Str} {cs : Scope} {a : Addr} {ccd : Value} {cl : List (Str × Addr)} {outer : List Env} {A₀ : Around} {base h₀ : Heap} {L : Addr} {m : Str → Option Value} {s : Shared}
  {Q E : Value → Shared → Prop}
set_option maxRecDepth 100000 in
set_option maxHeartbeats 8000000 in
theorem supply_next {si dd : Addr} {z : Str} {tz ti tk : Tok} {r kd : Nat} {mi : Int} {news : List (Addr × Obj)}
    (B : Below A₀ base outer h₀) (F : Fr h₀ L s.heap m) (X : (kk.heap_1 w.params).In h₀) (N : News h₀ L s.heap ((dd, dictOf [⟨PyData.keyHash w.params (Str.ofString "many"), .str (Str.ofString "many") tk, .int mi ti⟩] kd) :: (si, instObj 305 dd) :: news)) (hne : ∀ p ∈ (si, instObj 305 dd) :: news, p.1 ≠ dd) (T : Top p loose mean mg mb h₀) (hk : cs.kind = .function)
    (hz : bases r = z) (hr : r < 5) (hm0 : 0 ≤ mi) (hm1 : mi < 4) (hd : dp + 6 < recursionLimit) (hu : un + 200 < cLine)
    (hret : ∀ f tf ti' h' tk', IsF r mi f → Fr h₀ L h' m → News h₀ L h' ((dd, dictOf [⟨PyData.keyHash w.params (Str.ofString "many"), .str (Str.ofString "many") tk, .int (mi + 1) ti'⟩] kd) :: (si, instObj 305 dd) :: news) → Q (.str f tf) { s with heap := h', toks := tk' }) :
    wpAny (model PySem.Challenge.rw_sf0043_01.row.prog w) (ktrTop dp un gd cn cs L a ccd cl outer) (call (.ref 302) [.ref si, .str z tz]) Q E s := by
  subst hz
  w_top off
  revert X
  k_fill
  intro X
  have hr5 : r = 0 ∨ r = 1 ∨ r = 2 ∨ r = 3 ∨ r = 4 := by omega
  rcases hr5 with rfl | rfl | rfl | rfl | rfl
  all_goals (
  dsimp only [bases]
  refine wpAny_call ?_
  k_dflt ktr_enter
  k_with_none
  k_with "my set" => k_dflt (
    (refine' set_dict ?k1 ?k2 ?k3 ?k4 ?k5 ?k6 ?k7 ?k8 ?k9 ?k10 ?k11 ?k12 ?k13 ?_);
    (case k1 => k_asm);
    (case k2 => k_asm);
    (case k3 => k_asm);
    ((case k4 => k_inst));
    (case k5 => exact rfl);
    ((case k6 => k_is));
    (case k7 => k_is);
    (case k8 => k_is);
    (case k9 => k_is);
    ((case k10 => k_get));
    ((case k11 => first | exact put_many | k_put));
    ((case k12 => k_upd));
    ((case k13 => first | exact Nat.le_of_ble_eq_true rfl | ktr_units));
    k_whole; intro h' F' N'; (try k_sweep))
  k_steps
  k_with_none
  refine' hret _ _ _ _ _ ⟨rfl⟩ ?a (nPick3 ?N ?h1 ?h2 ?h3)
  case a => k_asm
  case N => k_asm
  case h1 => k_mem
  case h2 => k_mem
  case h3 => (intro p hp; simp only [List.mem_cons, hp, or_true]))
end
end Mine
end
section
open PySem PySem.W PySem.Spec PySem.Calls PyProof.Rows
namespace Mine
theorem names_off {z y : Str} (h : namesStored.contains z = false) (hy : namesStored.contains y = true) : z ≠ y := fun e => by rw [e, hy] at h; cases h
theorem nNames {g h : Heap} {L : Addr} {a b c d l : Addr × Obj} (N : News g L h [a, b, c, d, l]) : News g L h ([a] ++ [l, b, c, d]) := nSub N fun p hp => by
  simp only [List.mem_cons, List.mem_append, List.not_mem_nil, or_false] at hp ⊢
  rcases hp with e | e | e | e | e <;> simp [e]
section
local macro_rules | `(tactic| k_room) => `(tactic| ktr_room)
local macro_rules | `(tactic| k_all) => `(tactic| assumption)
local macro_rules | `(tactic| k_mem) => `(tactic| (refine memL ?_; ktr_member))
local macro_rules | `(tactic| walk_at "call ref") => `(tactic| k_extra "my call")
local macro_rules | `(tactic| walk_at "compareOp NotEq str str") => `(tactic| k_extra "my pre")
local macro_rules | `(tactic| walk_at "compareOp In str ref") => `(tactic| k_extra "my in")
local macro_rules | `(tactic| walk_at "call builtin:list.append") => `(tactic| k_extra "my append")
local macro_rules | `(tactic| walk_at "pyIter ref") => `(tactic| k_extra "my iter")
variable {w : World} {p : Program} {loose : List Str} {mean : ExcName → Option Value} {mg mb : Str → Option Value} {dp un : Nat} {gd : Option (List Code)} {cn : Str} {cs : Scope} {a : Addr} {ccd : Value} {cl : List (Str × Addr)} {outer : List Env} {A₀ : Around} {base h₀ : Heap} {L : Addr} {m : Str → Option Value} {s : Shared}
  {Q E : Value → Shared → Prop}
set_option maxRecDepth 100000 in
set_option maxHeartbeats 8000000 in
theorem names {l : Addr} {x y : Int} {tx ty : Tok} {n : Nat}
    (B : Below A₀ base outer h₀) (F : Fr h₀ L s.heap m) (X : (kk.heap_1 w.params).In h₀) (N : News h₀ L s.heap [(l, listOf [.int x tx, .int y ty].toArray n)]) (T : Top p loose mean mg mb h₀) (hk : cs.kind = .function)
    (hx : 0 ≤ x) (hy0 : 0 ≤ y) (hy1 : y < 65371) (hd : dp + 8 < recursionLimit) (hu : un + 300 < cLine)
    (hret : ∀ h' tk', Fr h₀ L h' m → Q (.bool true) { s with heap := h', toks := tk' }) :
    wpAny (model PySem.Challenge.rw_sf0043_01.row.prog w) (ktrTop dp un gd cn cs L a ccd cl outer) (call (.ref 555) [.ref l]) Q E s := by
  w_top off
  revert X
  k_fill
  intro X
  refine wpAny_call ?_
  k_dflt ktr_enter
  k_with_none
  k_with "my iter" => k_dflt (
    (rename IsRange _ _ _ _ _ _ _ _ => hR); (rename Fr _ _ _ _ => hF); (rename News _ _ _ _ => hN);
    with_unfolding_all refine' rg_inv (n := 4) (NamesJ w l _ _ _ n) rfl hR (small_one (by omega) (by omega) (by omega) (by omega)) rfl hF (nThin [_] (nNames hN)) (names_start hx hy0 hy1) ?turn ?done;
    case' turn => (
      intro i t m₁ nx h tk own hi hoff hJ F1 N1
      unfold NamesJ at hJ
      obtain ⟨x, y, mi, tx, ty, ti, tks, us, ns, nt, kd, u, rfl, hmi, hx, hy0, hy1, hS, hlen, hT, rfl⟩ := hJ
      simp only [List.map_cons, List.map_nil] at hoff
      simp only [List.cons_append, List.nil_append] at N1
      have ho1 : ∀ p ∈ own, p.1 ≠ l := fun p hp => hoff p hp _ (by simp)
      have ho2 := fun p (hp : p ∈ own) => hoff p hp _ (List.mem_cons_of_mem _ List.mem_cons_self)
      have ho3 := fun p (hp : p ∈ own) => hoff p hp _ (List.mem_cons_of_mem _ (List.mem_cons_of_mem _ List.mem_cons_self))
      have ho4 := fun p (hp : p ∈ own) => hoff p hp _ (List.mem_cons_of_mem _ (List.mem_cons_of_mem _ (List.mem_cons_of_mem _ List.mem_cons_self)))
      clear hF hN
      subst hmi
      (try k_fold))
    case' done => (
      intro m₁ nx h tk hJ F1 N1
      clear hF hN hJ
      (try k_fold)))
  k_with "my call" => k_dflt (
    (with_reducible show wpAny _ _ (call (Value.ref 534) _) _ _ _);
    (
      (rename News _ _ _ _ => hN);
      (refine' reach (l := l) (x := x) (y := y) (tx := tx) (ty := ty) (n := n) ?k1 ?k2 ?k3 (nSwap hN) ?k5 ?k6 ?k7 hx hy0 hy1 ?k8 ?k9 ?k10 ?k11 ?_);
      (case k1 => k_asm);
      (case k2 => k_asm);
      (case k3 => k_asm);
      (case k5 => (intro q hq; simp only [List.mem_cons] at hq; rcases hq with rfl | rfl | rfl | rfl | hq; (exact Nat.ne_of_gt (by omega)); (exact Nat.ne_of_gt (by omega)); (exact Nat.ne_of_gt (by omega)); (exact Nat.ne_of_gt (by omega)); (exact ho1 _ hq)));
      (case k6 => k_asm);
      (case k7 => exact rfl);
      (case k8 => decide);
      (case k9 => decide);
      (case k10 => ktr_room);
      (case k11 => ktr_units);
      k_whole;
      clear hN hx hy0 hy1;
      intro r x y tr tx ty h2 tk2 hx hy0 hy1 hr0 hr1 F2 N2;
      have hr : r = 0 ∨ r = 1 ∨ r = 2 ∨ r = 3 ∨ r = 4 := by omega;
      rcases hr with rfl | rfl | rfl | rfl | rfl;
      (all_goals (try k_fold))))
  k_with "my call" => k_dflt (
    (with_reducible show wpAny _ _ (call (Value.ref 302) _) _ _ _);
    (
      (rename News _ _ _ _ => hN);
      (refine' supply_next ?k1 ?k2 ?k3 (nRot hN) ?k5 ?k6 ?k7 ?hz ?hr ?k8 ?k9 ?k10 ?k11 ?_);
      (case hz => with_reducible first | exact bases0 | exact bases1 | exact bases2 | exact bases3 | exact bases4);
      (case k1 => k_asm);
      (case k2 => k_asm);
      (case k3 => k_asm);
      (case k5 => (intro q hq; simp only [List.mem_cons] at hq; rcases hq with rfl | rfl | rfl | hq; (first | exact Nat.ne_of_gt (by omega) | exact Nat.ne_of_lt (by omega)); (first | exact Nat.ne_of_gt (by omega) | exact Nat.ne_of_lt (by omega)); (first | exact Nat.ne_of_gt (by omega) | exact Nat.ne_of_lt (by omega)); (exact ho4 _ hq)));
      (case k6 => k_asm);
      (case k7 => exact rfl);
      (case hr => decide);
      (case k8 => exact Int.natCast_nonneg _);
      (case k9 => omega);
      (case k10 => ktr_room);
      (case k11 => ktr_units);
      k_whole;
      clear hN;
      intro f tf ti h2 tk2 hf F2 N2; have hfl := hf.len hi (by decide);
      (try k_fold)))
  k_with "my pre" => k_dflt (
    (refine' ne_str_eq ?h ?_);
    (case h => rw [hf.out]; refine lt4 (P := fun k => (Txt.slice (fOf _ (k : Int)) none _ != _) = false) hi ?_ ?_ ?_ ?_ <;> decide +kernel);
    k_whole)
  k_with "my in" => k_dflt (
    (refine' in_listStrs ?k1 ?k2 hS hT hi ?k3 ?k4 ?_);
    (case k1 => k_asm);
    (case k2 => k_mem);
    (case k3 => exact hf.mem hi (by decide));
    (case k4 => ktr_units);
    k_whole)
  k_with "my append" => k_dflt (
    (refine' append_K ?k1 ?k2 ?k3 ?_ ?z; (case k1 => k_asm); (case k2 => k_asm); (case k3 => k_upd); (case z => (rw [sizeLine_eq]; simp; try omega)); k_whole); intro h' F' N'; (try k_sweep))
  k_steps
  k_with_none
  · exact hret _ _ (by k_asm)
  all_goals (
    rename News _ _ _ _ => hNN
    simp only [List.push_toArray] at hNN
    refine' names_turn (x := x) (y := y) (tx := tx) (ty := ty) ?e1 hNN ?e2 ?e3 ?e4 ?e5 ?e6 hoff ?e7 hx hy0 hy1 hS hlen hT ?e8 ?e9
    case e1 => k_asm
    case e2 => repeat (first | exact List.mem_cons_self | refine List.mem_cons_of_mem _ ?_)
    case e3 => repeat (first | exact List.mem_cons_self | refine List.mem_cons_of_mem _ ?_)
    case e4 => repeat (first | exact List.mem_cons_self | refine List.mem_cons_of_mem _ ?_)
    case e5 => repeat (first | exact List.mem_cons_self | refine List.mem_cons_of_mem _ ?_)
    case e6 =>
      intro p hp
      repeat (refine List.mem_cons_of_mem _ ?_)
      exact hp
    case e7 => omega
    case e8 => exact hf.mem hi (by decide)
    case e9 =>
      intro z h2
      have h3 : ¬ z ∈ namesStored := by simpa using h2
      simp [h3, names_off h2 (y := Str.ofString "stem") (by decide +kernel), names_off h2 (y := Str.ofString "found") (by decide +kernel), names_off h2 (y := Str.ofString "name") (by decide +kernel), names_off h2 (y := Str.ofString "turn") (by decide +kernel)])
end
end Mine
end
section
open PySem PySem.W PySem.Spec PySem.Calls PyProof.Rows
namespace Mine
def chainD (hs : List Str) : PyData := hs.foldr (fun x d => .tuple [.str (Str.ofString "expr"), .str x, .tuple [d]]) (.tuple [.str (Str.ofString "sym"), .str (Str.ofString "a")])
theorem chainD_cons (x : Str) (xs : List Str) : chainD (x :: xs) = .tuple [.str (Str.ofString "expr"), .str x, .tuple [chainD xs]] := rfl
theorem ChainIn.reads {h₀ h : Heap} {L : Addr} {news : List (Addr × Obj)} {v : Value} {hs : List Str} (N : News h₀ L h news) (C : ChainIn news v hs) : ∃ as, Reads h v (chainD hs) as := by
  induction C with
  | nil hm => exact ⟨_, reads_tuple_at (N _ hm).1 rfl rfl (.cons (.str _ _) (.cons (.str _ _) .nil))⟩
  | cons h1 h2 _ ih =>
    obtain ⟨as, r⟩ := ih
    exact ⟨_, reads_tuple_at (N _ h1).1 rfl rfl (.cons (.str _ _) (.cons (.str _ _) (.cons (reads_tuple_at (N _ h2).1 rfl rfl (.cons r .nil)) .nil)))⟩
theorem chainD_lay : ∀ {hs : List Str}, Heads hs → (chainD hs).canLay0 = true
  | [], _ => by decide +kernel
  | x :: xs, h => by
    have h1 := chainD_lay (hs := xs) fun y hy => h y (.tail _ hy)
    have h2 : PyData.strOk x = true := by
      rcases h x (.head _) with e | e | e <;> (rw [e]; decide +kernel)
    have h3 : PyData.strOk (Str.ofString "expr") = true := by decide +kernel
    simp only [chainD_cons, PyData.canLay0, PyData.canLayAll0, h1, h2, h3, Bool.and_self]
theorem chainD_depth : ∀ hs : List Str, (chainD hs).depth ≤ 2 * hs.length + 1
  | [] => by decide
  | x :: xs => by
    have h1 := chainD_depth xs
    simp only [chainD_cons, PyData.depth, PyData.depthAll, List.length_cons]
    omega
section
variable {prog : Program} {w : World} {A : Around} {E : Value → Shared → Prop} {Q : Value → Shared → Prop} {s : Shared} {h₀ : Heap} {L : Addr} {news : List (Addr × Obj)} {v1 v2 : Value} {hs : List Str}
theorem chain_ne (N : News h₀ L s.heap news) (h1 : ChainIn news v1 hs) (h2 : ChainIn news v2 hs) (hH : Heads hs) (h200 : hs.length ≤ 200) (hu : A.units + 500 < cLine) (h : Q (.bool false) s) : wpAny (model prog w) A (compareOp .NotEq v1 v2) Q E s := by
  obtain ⟨as, r1⟩ := h1.reads N
  obtain ⟨bs, r2⟩ := h2.reads N
  refine SeqAt.compareNe_reads r1 r2 (chainD_lay hH) (chainD_lay hH) ?_ (by rw [PySem.SeqAt.eqv_refl _ (chainD_lay hH)]; exact h)
  rw [Nat.min_self]
  have := chainD_depth hs
  omega
end
end Mine
end
section
open PySem PySem.W PySem.Spec PySem.Calls PyProof.Rows
namespace Mine
structure Hid (P : Prop) : Prop where
  out : P
set_option Elab.async true
/- The names under which the head would lay its short-cuts (tw..) for the law. They are taken here, so that the head goes on without those that it can spare: the compiled file stays small. Nothing below uses them. -/
def law_holds.tw10007947361888340627 : Unit := ()
def law_holds.tw10024239376800412576 : Unit := ()
def law_holds.tw10027879121665395642 : Unit := ()
def law_holds.tw10028117763298573888 : Unit := ()
def law_holds.tw10079444305495103266 : Unit := ()
def law_holds.tw10108825076125807744 : Unit := ()
def law_holds.tw10188763426450519768 : Unit := ()
def law_holds.tw10189704592693192966 : Unit := ()
def law_holds.tw10208412474562628114 : Unit := ()
def law_holds.tw10222300733896627045 : Unit := ()
def law_holds.tw10264638600885302300 : Unit := ()
def law_holds.tw10296202853966499060 : Unit := ()
def law_holds.tw10301956948240465243 : Unit := ()
def law_holds.tw1031057903888850656 : Unit := ()
def law_holds.tw10346744231138586394 : Unit := ()
def law_holds.tw10350734228115807855 : Unit := ()
def law_holds.tw1035469204868569938 : Unit := ()
def law_holds.tw10362271348294423435 : Unit := ()
def law_holds.tw10368410895845634921 : Unit := ()
def law_holds.tw10371022188087798493 : Unit := ()
def law_holds.tw10441050188594101415 : Unit := ()
def law_holds.tw10458381655096516384 : Unit := ()
def law_holds.tw10465528174321978529 : Unit := ()
def law_holds.tw10516828495840041881 : Unit := ()
def law_holds.tw1052358405405742188 : Unit := ()
def law_holds.tw1053317679998426468 : Unit := ()
def law_holds.tw10566571302883470556 : Unit := ()
def law_holds.tw10609929442622069884 : Unit := ()
def law_holds.tw10666784280354678857 : Unit := ()
def law_holds.tw10726639523019406850 : Unit := ()
def law_holds.tw10767655046202684341 : Unit := ()
def law_holds.tw10812634152524527747 : Unit := ()
def law_holds.tw10817052189556005596 : Unit := ()
def law_holds.tw10841264019214440115 : Unit := ()
def law_holds.tw10876394233666535175 : Unit := ()
def law_holds.tw10897144627088453450 : Unit := ()
def law_holds.tw10954758410522031216 : Unit := ()
def law_holds.tw10958410103948607464 : Unit := ()
def law_holds.tw10968802771074238664 : Unit := ()
def law_holds.tw1096898596823417342 : Unit := ()
def law_holds.tw10983241140555628109 : Unit := ()
def law_holds.tw1099259369241382048 : Unit := ()
def law_holds.tw11017292853192552079 : Unit := ()
def law_holds.tw11067727234611919522 : Unit := ()
def law_holds.tw11098625913536864229 : Unit := ()
def law_holds.tw11100686419730198450 : Unit := ()
def law_holds.tw11126432536435168541 : Unit := ()
def law_holds.tw11133525997344109421 : Unit := ()
def law_holds.tw11169275537108399364 : Unit := ()
def law_holds.tw11182679623053108816 : Unit := ()
def law_holds.tw11223184984439025696 : Unit := ()
def law_holds.tw11232796583565578275 : Unit := ()
def law_holds.tw11297062200503488469 : Unit := ()
def law_holds.tw11303081109005220762 : Unit := ()
def law_holds.tw11330957891505755796 : Unit := ()
def law_holds.tw11426015686315989412 : Unit := ()
def law_holds.tw11463670642173560981 : Unit := ()
def law_holds.tw11470271118054631628 : Unit := ()
def law_holds.tw11609493526922420660 : Unit := ()
def law_holds.tw11633083819707477107 : Unit := ()
def law_holds.tw11666318101497114028 : Unit := ()
def law_holds.tw11677100312832694166 : Unit := ()
def law_holds.tw11690447701083486646 : Unit := ()
def law_holds.tw1172607208729018732 : Unit := ()
def law_holds.tw11764581739189218997 : Unit := ()
def law_holds.tw11781800970755023335 : Unit := ()
def law_holds.tw11795792742502079742 : Unit := ()
def law_holds.tw11803358882649189518 : Unit := ()
def law_holds.tw11846676642670509255 : Unit := ()
def law_holds.tw1186782194237197914 : Unit := ()
def law_holds.tw11881114122080957857 : Unit := ()
def law_holds.tw11924911360389889469 : Unit := ()
def law_holds.tw11946022803392826334 : Unit := ()
def law_holds.tw11956458263131016624 : Unit := ()
def law_holds.tw11966672015165255308 : Unit := ()
def law_holds.tw11977050620070087417 : Unit := ()
def law_holds.tw12001131798957381970 : Unit := ()
def law_holds.tw12108977868540685583 : Unit := ()
def law_holds.tw12115171985352901274 : Unit := ()
def law_holds.tw12116493165278983582 : Unit := ()
def law_holds.tw12134408205421670959 : Unit := ()
def law_holds.tw12149405283708829123 : Unit := ()
def law_holds.tw12253411696296436870 : Unit := ()
def law_holds.tw12291295341487003417 : Unit := ()
def law_holds.tw12294597709558488554 : Unit := ()
def law_holds.tw12296726922439171297 : Unit := ()
def law_holds.tw12303009252429188658 : Unit := ()
def law_holds.tw12320438053989627958 : Unit := ()
def law_holds.tw123295346585929383 : Unit := ()
def law_holds.tw12342728606916771844 : Unit := ()
def law_holds.tw12394330538082041428 : Unit := ()
def law_holds.tw12419048959643632839 : Unit := ()
def law_holds.tw1242418559920758562 : Unit := ()
def law_holds.tw12456547296908542839 : Unit := ()
def law_holds.tw12459966957829302596 : Unit := ()
def law_holds.tw1247253217256132012 : Unit := ()
def law_holds.tw12476058986133298565 : Unit := ()
def law_holds.tw1258919526383655059 : Unit := ()
def law_holds.tw12597187120891498251 : Unit := ()
def law_holds.tw12622292602297523153 : Unit := ()
def law_holds.tw12626328134170644701 : Unit := ()
def law_holds.tw12645607732203181651 : Unit := ()
def law_holds.tw12663309570017281627 : Unit := ()
def law_holds.tw12687621791434340054 : Unit := ()
def law_holds.tw12732824653754844360 : Unit := ()
def law_holds.tw12800644894191811977 : Unit := ()
def law_holds.tw12835091436910803158 : Unit := ()
def law_holds.tw12847567107135931479 : Unit := ()
def law_holds.tw1285599515219305098 : Unit := ()
def law_holds.tw12874571214893485439 : Unit := ()
def law_holds.tw12889056044993165476 : Unit := ()
def law_holds.tw12889673554181485818 : Unit := ()
def law_holds.tw12949845418750544790 : Unit := ()
def law_holds.tw12977093529070104392 : Unit := ()
def law_holds.tw13028658284911697911 : Unit := ()
def law_holds.tw13055523775352357715 : Unit := ()
def law_holds.tw13087128984098923117 : Unit := ()
def law_holds.tw13092103797297032270 : Unit := ()
def law_holds.tw13154458805202713791 : Unit := ()
def law_holds.tw13182730311906835528 : Unit := ()
def law_holds.tw13190408463805328480 : Unit := ()
def law_holds.tw13190703287169160282 : Unit := ()
def law_holds.tw13220211186989608806 : Unit := ()
def law_holds.tw13280740594461564331 : Unit := ()
def law_holds.tw13281950902743806629 : Unit := ()
def law_holds.tw13301187468288870568 : Unit := ()
def law_holds.tw13336368349410954346 : Unit := ()
def law_holds.tw13342137609418717338 : Unit := ()
def law_holds.tw13342518741750886279 : Unit := ()
def law_holds.tw1335265377702380343 : Unit := ()
def law_holds.tw13392613628428298086 : Unit := ()
def law_holds.tw13397297893571687751 : Unit := ()
def law_holds.tw1341266762083198811 : Unit := ()
def law_holds.tw13431030151845061361 : Unit := ()
def law_holds.tw13478230802861573701 : Unit := ()
def law_holds.tw13482675847692870326 : Unit := ()
def law_holds.tw13642005409729077643 : Unit := ()
def law_holds.tw13650905803964671038 : Unit := ()
def law_holds.tw13667737974841707781 : Unit := ()
def law_holds.tw13709617746848070560 : Unit := ()
def law_holds.tw13766487248619392586 : Unit := ()
def law_holds.tw1376783240425437725 : Unit := ()
def law_holds.tw1377309892636839040 : Unit := ()
def law_holds.tw13780023080261437657 : Unit := ()
def law_holds.tw13800757232730249582 : Unit := ()
def law_holds.tw13840902789983287329 : Unit := ()
def law_holds.tw1385162719727133579 : Unit := ()
def law_holds.tw13946396397441689949 : Unit := ()
def law_holds.tw13958071646730322851 : Unit := ()
def law_holds.tw13983371404066579822 : Unit := ()
def law_holds.tw14064573792008682920 : Unit := ()
def law_holds.tw14096671659099660379 : Unit := ()
def law_holds.tw14160533322030094474 : Unit := ()
def law_holds.tw14289194402921355359 : Unit := ()
def law_holds.tw14326059299131336239 : Unit := ()
def law_holds.tw14335913921861858828 : Unit := ()
def law_holds.tw14354538779393863138 : Unit := ()
def law_holds.tw14377833709258309704 : Unit := ()
def law_holds.tw14385925486924208373 : Unit := ()
def law_holds.tw14390095281932903014 : Unit := ()
def law_holds.tw14390602165704524457 : Unit := ()
def law_holds.tw14489315793263303861 : Unit := ()
def law_holds.tw14497384708736915567 : Unit := ()
def law_holds.tw14498155544194170393 : Unit := ()
def law_holds.tw14531881819706719225 : Unit := ()
def law_holds.tw14545874151571354728 : Unit := ()
def law_holds.tw14571795756577361901 : Unit := ()
def law_holds.tw14596297492920191028 : Unit := ()
def law_holds.tw14646867148444618371 : Unit := ()
def law_holds.tw14746732674962391887 : Unit := ()
def law_holds.tw14789792462180790578 : Unit := ()
def law_holds.tw14822640431511872941 : Unit := ()
def law_holds.tw14828999820898988419 : Unit := ()
def law_holds.tw14872900085578418628 : Unit := ()
def law_holds.tw14883556706271630602 : Unit := ()
def law_holds.tw14892801356780361778 : Unit := ()
def law_holds.tw14904137174637212347 : Unit := ()
def law_holds.tw14925382992726071281 : Unit := ()
def law_holds.tw14957179600199517237 : Unit := ()
def law_holds.tw1496123403401453975 : Unit := ()
def law_holds.tw14983226153234331074 : Unit := ()
def law_holds.tw14988988175077273356 : Unit := ()
def law_holds.tw14991590004735058009 : Unit := ()
def law_holds.tw14997073306097389879 : Unit := ()
def law_holds.tw15006436103509636135 : Unit := ()
def law_holds.tw15014403891855920072 : Unit := ()
def law_holds.tw15031514592837009168 : Unit := ()
def law_holds.tw15140378357190847165 : Unit := ()
def law_holds.tw15150646450996357022 : Unit := ()
def law_holds.tw15154110283740273250 : Unit := ()
def law_holds.tw15162217921772873613 : Unit := ()
def law_holds.tw15191720212996534143 : Unit := ()
def law_holds.tw15274831704391544125 : Unit := ()
def law_holds.tw15293083901398250104 : Unit := ()
def law_holds.tw15333956030411951890 : Unit := ()
def law_holds.tw15352839923633478061 : Unit := ()
def law_holds.tw15448297888555860652 : Unit := ()
def law_holds.tw15472126771306010800 : Unit := ()
def law_holds.tw1550374771381668074 : Unit := ()
def law_holds.tw15514866124879379921 : Unit := ()
def law_holds.tw15522444059895599089 : Unit := ()
def law_holds.tw15544829507116839252 : Unit := ()
def law_holds.tw15567558954438479688 : Unit := ()
def law_holds.tw15607887362523206001 : Unit := ()
def law_holds.tw15609566024721092083 : Unit := ()
def law_holds.tw15661869461025623997 : Unit := ()
def law_holds.tw15694993059591697976 : Unit := ()
def law_holds.tw15726739188670627701 : Unit := ()
def law_holds.tw15732109348078318572 : Unit := ()
def law_holds.tw15759456685926392790 : Unit := ()
def law_holds.tw15796309260620551687 : Unit := ()
def law_holds.tw15802469936163623734 : Unit := ()
def law_holds.tw15806970514647361693 : Unit := ()
def law_holds.tw15829985883664642994 : Unit := ()
def law_holds.tw15848713872586308078 : Unit := ()
def law_holds.tw15883345262158282383 : Unit := ()
def law_holds.tw1588742098881680585 : Unit := ()
def law_holds.tw16009327648451700120 : Unit := ()
def law_holds.tw160851071654074740 : Unit := ()
def law_holds.tw16092355726972411579 : Unit := ()
def law_holds.tw16098570224071239113 : Unit := ()
def law_holds.tw16099233806120587224 : Unit := ()
def law_holds.tw1622690429015379626 : Unit := ()
def law_holds.tw16273140198857503625 : Unit := ()
def law_holds.tw16332274672890094952 : Unit := ()
def law_holds.tw16381176275627223697 : Unit := ()
def law_holds.tw16406091861079842607 : Unit := ()
def law_holds.tw16470317323979864763 : Unit := ()
def law_holds.tw16563099163409725306 : Unit := ()
def law_holds.tw16606368319796509530 : Unit := ()
def law_holds.tw16612359704951912572 : Unit := ()
def law_holds.tw16614716721108272449 : Unit := ()
def law_holds.tw16691439815215545270 : Unit := ()
def law_holds.tw1670043908289496885 : Unit := ()
def law_holds.tw16760957895259694429 : Unit := ()
def law_holds.tw16765433158599729185 : Unit := ()
def law_holds.tw16771549258648962210 : Unit := ()
def law_holds.tw16805829885119392726 : Unit := ()
def law_holds.tw16836969012518115619 : Unit := ()
def law_holds.tw1685627985566243432 : Unit := ()
def law_holds.tw16873799427995575018 : Unit := ()
def law_holds.tw16883458599210261866 : Unit := ()
def law_holds.tw16893121556090616931 : Unit := ()
def law_holds.tw1689763614830377041 : Unit := ()
def law_holds.tw16935243356766158856 : Unit := ()
def law_holds.tw16947615914383616782 : Unit := ()
def law_holds.tw16963379459963715452 : Unit := ()
def law_holds.tw16978406815995349258 : Unit := ()
def law_holds.tw17027635718292003107 : Unit := ()
def law_holds.tw17028624522117568015 : Unit := ()
def law_holds.tw17046799393618780204 : Unit := ()
def law_holds.tw1710076424337546998 : Unit := ()
def law_holds.tw17137235678499792623 : Unit := ()
def law_holds.tw17156363617357476176 : Unit := ()
def law_holds.tw17180001009569633970 : Unit := ()
def law_holds.tw17183477848116922584 : Unit := ()
def law_holds.tw1722738952054099684 : Unit := ()
def law_holds.tw17249539165995611551 : Unit := ()
def law_holds.tw17253903310271361901 : Unit := ()
def law_holds.tw17255088995462705879 : Unit := ()
def law_holds.tw17264387287909652857 : Unit := ()
def law_holds.tw17274716441693411508 : Unit := ()
def law_holds.tw17442192890938909491 : Unit := ()
def law_holds.tw17470365217354309832 : Unit := ()
def law_holds.tw17499823404086765753 : Unit := ()
def law_holds.tw17545576798567701639 : Unit := ()
def law_holds.tw1762888911704233025 : Unit := ()
def law_holds.tw1767730674963353768 : Unit := ()
def law_holds.tw17713402740875732926 : Unit := ()
def law_holds.tw17758146289354676595 : Unit := ()
def law_holds.tw17792525830624384078 : Unit := ()
def law_holds.tw17830944117370523080 : Unit := ()
def law_holds.tw1784627337472249616 : Unit := ()
def law_holds.tw17865009358878524859 : Unit := ()
def law_holds.tw17899081815984039989 : Unit := ()
def law_holds.tw1791086108937442324 : Unit := ()
def law_holds.tw17911580528928914924 : Unit := ()
def law_holds.tw17923851452625207687 : Unit := ()
def law_holds.tw17942499455142895165 : Unit := ()
def law_holds.tw17974257514489008736 : Unit := ()
def law_holds.tw18006792725990754497 : Unit := ()
def law_holds.tw18026530572120702767 : Unit := ()
def law_holds.tw18051328159682125866 : Unit := ()
def law_holds.tw18090433342136740992 : Unit := ()
def law_holds.tw18116031599527039140 : Unit := ()
def law_holds.tw18135211599370774712 : Unit := ()
def law_holds.tw18153520721480276881 : Unit := ()
def law_holds.tw18155623678392573649 : Unit := ()
def law_holds.tw1819975233463548508 : Unit := ()
def law_holds.tw18203989763732354715 : Unit := ()
def law_holds.tw18221428039690301666 : Unit := ()
def law_holds.tw18221580467831097590 : Unit := ()
def law_holds.tw18234560199702728603 : Unit := ()
def law_holds.tw18254337876149969668 : Unit := ()
def law_holds.tw18261290160731607033 : Unit := ()
def law_holds.tw18269650602155537469 : Unit := ()
def law_holds.tw18326849912455186884 : Unit := ()
def law_holds.tw1832781179975386347 : Unit := ()
def law_holds.tw18340598423539479173 : Unit := ()
def law_holds.tw18388893480867403737 : Unit := ()
def law_holds.tw18430954121086234272 : Unit := ()
def law_holds.tw1905533677188600702 : Unit := ()
def law_holds.tw1909877003179415225 : Unit := ()
def law_holds.tw1928719863018725356 : Unit := ()
def law_holds.tw194939583717160490 : Unit := ()
def law_holds.tw1989176631692091739 : Unit := ()
def law_holds.tw1997475870405608531 : Unit := ()
def law_holds.tw2006301483956418059 : Unit := ()
def law_holds.tw2016121425191149895 : Unit := ()
def law_holds.tw201773371166282204 : Unit := ()
def law_holds.tw2043166853727251185 : Unit := ()
def law_holds.tw2078624436916829710 : Unit := ()
def law_holds.tw2090888555730037645 : Unit := ()
def law_holds.tw2096525686368166746 : Unit := ()
def law_holds.tw2102315897755806987 : Unit := ()
def law_holds.tw2124134355350193313 : Unit := ()
def law_holds.tw2127001594154878533 : Unit := ()
def law_holds.tw2136269947727277649 : Unit := ()
def law_holds.tw2139172203440323022 : Unit := ()
def law_holds.tw2142710703020379005 : Unit := ()
def law_holds.tw2143268655074302082 : Unit := ()
def law_holds.tw2152083551845799040 : Unit := ()
def law_holds.tw2175471002772951711 : Unit := ()
def law_holds.tw2269544990204364226 : Unit := ()
def law_holds.tw228058311090241170 : Unit := ()
def law_holds.tw2295933128562542503 : Unit := ()
def law_holds.tw2303879751551577860 : Unit := ()
def law_holds.tw2322801206320994539 : Unit := ()
def law_holds.tw2325693721150917532 : Unit := ()
def law_holds.tw2387193687640843687 : Unit := ()
def law_holds.tw2414074194907454277 : Unit := ()
def law_holds.tw2503670479209048990 : Unit := ()
def law_holds.tw2558664710541493025 : Unit := ()
def law_holds.tw2578278018795888234 : Unit := ()
def law_holds.tw2602977815382960713 : Unit := ()
def law_holds.tw2618386414584295968 : Unit := ()
def law_holds.tw2643271747718453845 : Unit := ()
def law_holds.tw2644310842459337959 : Unit := ()
def law_holds.tw2695550118857162214 : Unit := ()
def law_holds.tw2731376850318366449 : Unit := ()
def law_holds.tw2742136470415600814 : Unit := ()
def law_holds.tw2782419253953178936 : Unit := ()
def law_holds.tw278577583623918606 : Unit := ()
def law_holds.tw2842810181116790245 : Unit := ()
def law_holds.tw2851267720448770887 : Unit := ()
def law_holds.tw2856731137302751260 : Unit := ()
def law_holds.tw2865737869514987218 : Unit := ()
def law_holds.tw2887050238494874643 : Unit := ()
def law_holds.tw2887994833065977647 : Unit := ()
def law_holds.tw2903333896348957400 : Unit := ()
def law_holds.tw2907507879108658156 : Unit := ()
def law_holds.tw293627430662643474 : Unit := ()
def law_holds.tw3012480247710183994 : Unit := ()
def law_holds.tw302768837105346163 : Unit := ()
def law_holds.tw3028213030429885723 : Unit := ()
def law_holds.tw3033269912633744064 : Unit := ()
def law_holds.tw3046938939346580660 : Unit := ()
def law_holds.tw3049941959672503198 : Unit := ()
def law_holds.tw3110860835449505704 : Unit := ()
def law_holds.tw3127913417769977931 : Unit := ()
def law_holds.tw3136910860242942599 : Unit := ()
def law_holds.tw3158129796062787159 : Unit := ()
def law_holds.tw3186734533307500241 : Unit := ()
def law_holds.tw3253568177066640346 : Unit := ()
def law_holds.tw3253820488102484341 : Unit := ()
def law_holds.tw3258674603298201628 : Unit := ()
def law_holds.tw3329330481660614911 : Unit := ()
def law_holds.tw3390839446522356110 : Unit := ()
def law_holds.tw3438298445031660282 : Unit := ()
def law_holds.tw3572487005457819259 : Unit := ()
def law_holds.tw3586223124089845285 : Unit := ()
def law_holds.tw3595789414353437717 : Unit := ()
def law_holds.tw3672438013989251361 : Unit := ()
def law_holds.tw3674665740742831893 : Unit := ()
def law_holds.tw3682559726232862161 : Unit := ()
def law_holds.tw3718366804121287342 : Unit := ()
def law_holds.tw3742325753681652743 : Unit := ()
def law_holds.tw3756308257209627903 : Unit := ()
def law_holds.tw3756957479349018193 : Unit := ()
def law_holds.tw3776956092104397036 : Unit := ()
def law_holds.tw3808703085821546077 : Unit := ()
def law_holds.tw3850334171643177529 : Unit := ()
def law_holds.tw3850375180904979519 : Unit := ()
def law_holds.tw3850404396616230974 : Unit := ()
def law_holds.tw3882201998751590657 : Unit := ()
def law_holds.tw3896150654470677357 : Unit := ()
def law_holds.tw3910120701321347557 : Unit := ()
def law_holds.tw3912811242725288453 : Unit := ()
def law_holds.tw3927331946688356228 : Unit := ()
def law_holds.tw3943428198234077543 : Unit := ()
def law_holds.tw3955097671198598788 : Unit := ()
def law_holds.tw3956099054510807996 : Unit := ()
def law_holds.tw3959601488294255719 : Unit := ()
def law_holds.tw4008084134468147086 : Unit := ()
def law_holds.tw4030767218360268280 : Unit := ()
def law_holds.tw4072507727158212662 : Unit := ()
def law_holds.tw4146061822495498468 : Unit := ()
def law_holds.tw415365407113419659 : Unit := ()
def law_holds.tw41732636909640268 : Unit := ()
def law_holds.tw4329158554759489670 : Unit := ()
def law_holds.tw4370086069003782432 : Unit := ()
def law_holds.tw4439653461905209652 : Unit := ()
def law_holds.tw4441770287765753910 : Unit := ()
def law_holds.tw445335354869643106 : Unit := ()
def law_holds.tw4464252984393422682 : Unit := ()
def law_holds.tw447027507633508388 : Unit := ()
def law_holds.tw4492043994082249198 : Unit := ()
def law_holds.tw4515466672771955728 : Unit := ()
def law_holds.tw4524032621918665186 : Unit := ()
def law_holds.tw455179833554555240 : Unit := ()
def law_holds.tw4568741812840581045 : Unit := ()
def law_holds.tw4581845663705801772 : Unit := ()
def law_holds.tw4593294709026258786 : Unit := ()
def law_holds.tw4635674611617693574 : Unit := ()
def law_holds.tw4643041051132140158 : Unit := ()
def law_holds.tw4741859662064258567 : Unit := ()
def law_holds.tw4781243967656130014 : Unit := ()
def law_holds.tw4818577856007422655 : Unit := ()
def law_holds.tw4889031023730116350 : Unit := ()
def law_holds.tw4916342969005030805 : Unit := ()
def law_holds.tw4926764831415151309 : Unit := ()
def law_holds.tw4963573110770748834 : Unit := ()
def law_holds.tw498061464947678834 : Unit := ()
def law_holds.tw4992725456586698614 : Unit := ()
def law_holds.tw4995542688137877417 : Unit := ()
def law_holds.tw5028703555768689143 : Unit := ()
def law_holds.tw5037970770195530229 : Unit := ()
def law_holds.tw503957847093417577 : Unit := ()
def law_holds.tw5045712524691215523 : Unit := ()
def law_holds.tw5062152199769849712 : Unit := ()
def law_holds.tw5087963091746180759 : Unit := ()
def law_holds.tw5112083995522966620 : Unit := ()
def law_holds.tw517122205372281323 : Unit := ()
def law_holds.tw519298541982818421 : Unit := ()
def law_holds.tw5212653520564569363 : Unit := ()
def law_holds.tw5274592661964301406 : Unit := ()
def law_holds.tw5364902710198789758 : Unit := ()
def law_holds.tw5389484754426515990 : Unit := ()
def law_holds.tw5451054884063135654 : Unit := ()
def law_holds.tw5640673133297012132 : Unit := ()
def law_holds.tw575232530192455986 : Unit := ()
def law_holds.tw576407869801174206 : Unit := ()
def law_holds.tw5858263632927829637 : Unit := ()
def law_holds.tw5898729028444588960 : Unit := ()
def law_holds.tw5907203647135998699 : Unit := ()
def law_holds.tw5920216800500632969 : Unit := ()
def law_holds.tw59864651932915081 : Unit := ()
def law_holds.tw5989267464594152519 : Unit := ()
def law_holds.tw5994716906283268228 : Unit := ()
def law_holds.tw602461330855297101 : Unit := ()
def law_holds.tw6189876280036216102 : Unit := ()
def law_holds.tw6260460797876433568 : Unit := ()
def law_holds.tw6265907326580845545 : Unit := ()
def law_holds.tw6317479115527610633 : Unit := ()
def law_holds.tw6333624483447246961 : Unit := ()
def law_holds.tw6381524096760519305 : Unit := ()
def law_holds.tw6499956759230125245 : Unit := ()
def law_holds.tw6507877686720480950 : Unit := ()
def law_holds.tw653560878884961445 : Unit := ()
def law_holds.tw6553333263825352884 : Unit := ()
def law_holds.tw6564709946809587534 : Unit := ()
def law_holds.tw6580623548314892615 : Unit := ()
def law_holds.tw660297872995803996 : Unit := ()
def law_holds.tw6667284449218939238 : Unit := ()
def law_holds.tw6674817763981286723 : Unit := ()
def law_holds.tw6677821561840896501 : Unit := ()
def law_holds.tw6719018230134327050 : Unit := ()
def law_holds.tw6723812968561706957 : Unit := ()
def law_holds.tw6746360682218282392 : Unit := ()
def law_holds.tw6751701741844952029 : Unit := ()
def law_holds.tw676263390381983339 : Unit := ()
def law_holds.tw6765152471904792315 : Unit := ()
def law_holds.tw6776455111828631412 : Unit := ()
def law_holds.tw6860709855171689206 : Unit := ()
def law_holds.tw6861490101519172755 : Unit := ()
def law_holds.tw6869992995446874880 : Unit := ()
def law_holds.tw687851300278632918 : Unit := ()
def law_holds.tw6882020374766023752 : Unit := ()
def law_holds.tw6896717019858035522 : Unit := ()
def law_holds.tw6911747868599837429 : Unit := ()
def law_holds.tw6934448944433832347 : Unit := ()
def law_holds.tw699380112222796084 : Unit := ()
def law_holds.tw7019463264422422977 : Unit := ()
def law_holds.tw7089819591129360890 : Unit := ()
def law_holds.tw718173064312146323 : Unit := ()
def law_holds.tw7185456241796803578 : Unit := ()
def law_holds.tw7221428835167493151 : Unit := ()
def law_holds.tw723553956927101924 : Unit := ()
def law_holds.tw724200737284857819 : Unit := ()
def law_holds.tw7255801316494023530 : Unit := ()
def law_holds.tw7304591109411159013 : Unit := ()
def law_holds.tw7311554392007033315 : Unit := ()
def law_holds.tw7348542588901171862 : Unit := ()
def law_holds.tw7356724547972884604 : Unit := ()
def law_holds.tw7404543985812422374 : Unit := ()
def law_holds.tw7407239408455114201 : Unit := ()
def law_holds.tw7408472829698581751 : Unit := ()
def law_holds.tw745255978533919091 : Unit := ()
def law_holds.tw7472407996622490835 : Unit := ()
def law_holds.tw7477029592234522582 : Unit := ()
def law_holds.tw7484302960587174374 : Unit := ()
def law_holds.tw7495221243884187115 : Unit := ()
def law_holds.tw7544913113114293122 : Unit := ()
def law_holds.tw7566432030715092817 : Unit := ()
def law_holds.tw7604666192120794032 : Unit := ()
def law_holds.tw7636989558263936852 : Unit := ()
def law_holds.tw7675160084493405025 : Unit := ()
def law_holds.tw7695934317539461687 : Unit := ()
def law_holds.tw7696488724909661519 : Unit := ()
def law_holds.tw7700205739533057995 : Unit := ()
def law_holds.tw7767266014307106701 : Unit := ()
def law_holds.tw7769649832755249146 : Unit := ()
def law_holds.tw7775064044895347852 : Unit := ()
def law_holds.tw784011647948385275 : Unit := ()
def law_holds.tw7897602043232517924 : Unit := ()
def law_holds.tw7983211939772527470 : Unit := ()
def law_holds.tw8035577848987061507 : Unit := ()
def law_holds.tw8061732933902216757 : Unit := ()
def law_holds.tw808278469055374699 : Unit := ()
def law_holds.tw811035903429128223 : Unit := ()
def law_holds.tw8128863188182927164 : Unit := ()
def law_holds.tw8176227357466254829 : Unit := ()
def law_holds.tw8191475993861738794 : Unit := ()
def law_holds.tw8210953160692291510 : Unit := ()
def law_holds.tw8249079356659094474 : Unit := ()
def law_holds.tw8274860762260061732 : Unit := ()
def law_holds.tw8288515034561320083 : Unit := ()
def law_holds.tw8312341600987523519 : Unit := ()
def law_holds.tw8330938851228082562 : Unit := ()
def law_holds.tw8386679336120195906 : Unit := ()
def law_holds.tw8417186165934385351 : Unit := ()
def law_holds.tw8441880690091102137 : Unit := ()
def law_holds.tw8472228645029834797 : Unit := ()
def law_holds.tw8481075993509181622 : Unit := ()
def law_holds.tw8549365171731915398 : Unit := ()
def law_holds.tw8570087061310353148 : Unit := ()
def law_holds.tw8572072892066365893 : Unit := ()
def law_holds.tw8591876402714022951 : Unit := ()
def law_holds.tw8594288443124883644 : Unit := ()
def law_holds.tw8634839017697508684 : Unit := ()
def law_holds.tw8652346329174877282 : Unit := ()
def law_holds.tw8666519363043736892 : Unit := ()
def law_holds.tw8715444014776630742 : Unit := ()
def law_holds.tw8720880381367431298 : Unit := ()
def law_holds.tw8763168800255643514 : Unit := ()
def law_holds.tw8790382262760724670 : Unit := ()
def law_holds.tw8804120190785687885 : Unit := ()
def law_holds.tw881140697980615281 : Unit := ()
def law_holds.tw8835965917227929528 : Unit := ()
def law_holds.tw8854015012368427407 : Unit := ()
def law_holds.tw8856317710758748564 : Unit := ()
def law_holds.tw8857742495270377987 : Unit := ()
def law_holds.tw8860054118572591635 : Unit := ()
def law_holds.tw8890443458166856008 : Unit := ()
def law_holds.tw8957123355933967898 : Unit := ()
def law_holds.tw8970147916757833333 : Unit := ()
def law_holds.tw8984152853971343422 : Unit := ()
def law_holds.tw9032369906271771983 : Unit := ()
def law_holds.tw9069877914133315304 : Unit := ()
def law_holds.tw907578622648922086 : Unit := ()
def law_holds.tw908389787484368193 : Unit := ()
def law_holds.tw9110268283492699800 : Unit := ()
def law_holds.tw9168033884955339765 : Unit := ()
def law_holds.tw9184033795430018204 : Unit := ()
def law_holds.tw9187647767651647856 : Unit := ()
def law_holds.tw9207643191828677137 : Unit := ()
def law_holds.tw9255152265573255198 : Unit := ()
def law_holds.tw9288214680346807717 : Unit := ()
def law_holds.tw9317688335297629284 : Unit := ()
def law_holds.tw9403268196540146800 : Unit := ()
def law_holds.tw9423440377400516374 : Unit := ()
def law_holds.tw9432226000188453795 : Unit := ()
def law_holds.tw9529696498207198238 : Unit := ()
def law_holds.tw9548147230944474901 : Unit := ()
def law_holds.tw9552830710289189752 : Unit := ()
def law_holds.tw9634471323475708679 : Unit := ()
def law_holds.tw9682718004065560343 : Unit := ()
def law_holds.tw972601921857779769 : Unit := ()
def law_holds.tw9758593294864014727 : Unit := ()
def law_holds.tw9779807473162285230 : Unit := ()
def law_holds.tw981846192996546977 : Unit := ()
def law_holds.tw9843604407834444796 : Unit := ()
def law_holds.tw9849722394096787677 : Unit := ()
def law_holds.tw9871626496009991038 : Unit := ()
def law_holds.tw9875236377963488844 : Unit := ()
def law_holds.tw9887912731928775018 : Unit := ()
def law_holds.tw9992725586745946429 : Unit := ()
section
local macro_rules | `(tactic| k_all) => `(tactic| (k_extra "my on"; assumption))
local macro_rules | `(tactic| k_mem) => `(tactic| (k_extra "my on"; refine memL ?_; ktr_member))
local macro_rules | `(tactic| walk_at "call ref") => `(tactic| k_extra "my call")
local macro_rules | `(tactic| walk_at "compareOp NotEq ref ref") => `(tactic| k_extra "my ne")
set_option maxRecDepth 100000 in
set_option maxHeartbeats 16000000 in
theorem law_holds : PySem.Challenge.rw_sf0043_01.Holds := by
  w_top off
  w_on
  o_law
  k_head
  case hw => w_witness2
  w_strict (k_go0; (all_goals try k_fold))
  (rename Frag.In _ _ => KX1)
  have KXk : Hid ((kk.heap_1 _).In _) := ⟨KX1⟩
  k_with_none
  k_with "my on" => skip
  k_with "my call" => k_dflt (
    (with_reducible show wpAny _ _ (call (Value.ref 527) _) _ _ _);
    (
      (refine' shelf ?k1 ?k2 ?k3 ?k4 ?k5 ?k6 ?k7 ?k8 ?k9 ?k10 ?k11 ?_);
      (case k1 => k_asm);
      (case k2 => k_asm);
      (case k3 => first | with_reducible exact Hid.out KXk | (change (_root_.Mine.law_holds.heap_1_39 _).In _; k_asm));
      (case k4 => k_asm);
      (case k5 => k_asm);
      (case k6 => exact rfl);
      (case k7 => assumption);
      (case k8 => assumption);
      (case k9 => first | assumption | omega);
      (case k10 => ktr_room);
      (case k11 => ktr_units);
      (k_whole);
      (intro l x y tx ty n h2 tk2 hx hy0 hy1 F2 N2 hne2);
      (try k_fold)))
  k_with "my call" => k_dflt (
    (with_reducible show wpAny _ _ (call (Value.ref 534) _) _ _ _);
    (
      (refine' reach (news := []) ?k1 ?k2 ?k3 ?k4 ?k5 ?k6 ?k7 hx hy0 hy1 ?k8 ?k9 ?k10 ?k11 ?_);
      (case k1 => k_asm);
      (case k2 => k_asm);
      (case k3 => first | with_reducible exact Hid.out KXk | (change (_root_.Mine.law_holds.heap_1_39 _).In _; k_asm));
      (case k4 => k_asm);
      (case k5 => exact fun _ h => nomatch h);
      (case k6 => k_asm);
      (case k7 => exact rfl);
      (case k8 => decide);
      (case k9 => decide);
      (case k10 => ktr_room);
      (case k11 => ktr_units);
      (k_whole);
      (clear hx hy0 hy1);
      (intro r x y tr tx ty h2 tk2 hx hy0 hy1 hr0 hr1 F2 N2);
      (try k_fold)))
  k_with "my call" => k_dflt (
    (with_reducible show wpAny _ _ (call (Value.ref 548) _) _ _ _);
    (
      (refine' chain ?k1 ?k2 ?k3 ?k4 ?k5 ?k6 hx hy0 hy1 ?k7 ?k8 ?k10 ?k11 ?_);
      (case k1 => k_asm);
      (case k2 => k_asm);
      (case k3 => first | with_reducible exact Hid.out KXk | (change (_root_.Mine.law_holds.heap_1_39 _).In _; k_asm));
      (case k4 => k_asm);
      (case k5 => k_asm);
      (case k6 => exact rfl);
      (case k7 => omega);
      (case k8 => omega);
      (case k10 => ktr_room);
      (case k11 => ktr_units);
      (k_whole);
      (clear hx hy0 hy1);
      (intro v hs x y tx ty tl h2 tk2 hx hy0 hy1 hlen hH hC hne F2 N2);
      (obtain ⟨c, rfl⟩ : ∃ c, v = .ref c := (by cases hC <;> exact ⟨_, rfl⟩));
      (try k_fold)))
  k_with "my call" => k_dflt (
    (with_reducible show wpAny _ _ (call (Value.ref 505) _) _ _ _);
    (
      (refine' run (hs := hs) ?k1 ?k2 ?k3 ?k4 ?k5 ?k6 ?k7 ?k8 ?k9 hH ?k12 ?k10 ?k11 ?r1 ?r2);
      (case k1 => k_asm);
      (case k2 => k_asm);
      (case k3 => first | with_reducible exact Hid.out KXk | (change (_root_.Mine.law_holds.heap_1_39 _).In _; k_asm));
      (case k4 => k_asm);
      (case k5 => k_asm);
      (case k6 => exact rfl);
      (case k7 => k_mem);
      (case k8 => k_mem);
      (case k9 => exact hC.mono fun p hp => by simp [hp]);
      (case k12 => omega);
      (case k10 => ktr_room);
      (case k11 => ktr_units);
      (case' r1 => intro v2 tl2 h2 tk2 h200 hC2 hsub F2 N2; obtain ⟨c2, rfl⟩ : ∃ c, v2 = .ref c := (by cases hC2 <;> exact ⟨_, rfl⟩));
      (case' r2 => intro e2 t2 vs2 G2 h2 tk2 h200 FG2 R2 R2' U2; change RaisedS _ _ (envOf _ _ _ _ _ :: envOf _ _ _ _ _ :: envOf _ _ _ _ _ :: _) _ _ _ _ _ _ at R2; clear R2');
      (all_goals (try dsimp only))))
  k_with "my call" => k_dflt (
    (with_reducible show wpAny _ _ (call (Value.ref 555) _) _ _ _);
    (
      (refine' names (l := l) (x := x) (y := y) (tx := tx) (ty := ty) (n := n) ?k1 ?k2 ?k3 ?k4 ?k5 ?k6 hx hy0 hy1 ?k10 ?k11 ?_);
      (case k1 => k_asm);
      (case k2 => k_asm);
      (case k3 => first | with_reducible exact Hid.out KXk | (change (_root_.Mine.law_holds.heap_1_39 _).In _; k_asm));
      (case k4 => refine' nSub ?n1 ?n2; (case n1 => k_asm); (case n2 => (intro p hp; rcases List.mem_singleton.mp hp with rfl; first | (simp; done) | exact hsub _ (by simp))));
      (case k5 => k_asm);
      (case k6 => exact rfl);
      (case k10 => ktr_room);
      (case k11 => ktr_units);
      (k_whole);
      (intro h2 tk2 F2);
      (try k_fold)))
  k_with "my ne" => k_dflt (
    (refine' chain_ne ?k4 hC2 (hC.mono ?k5) hH h200 ?k6 ?_);
    (case k4 => k_asm);
    (case k5 => exact fun p hp => hsub p (by simp [hp]));
    (case k6 => ktr_units);
    k_whole)
  k_steps
  k_with_none
end
end Mine
end
set_option maxRecDepth 100000 in
set_option maxHeartbeats 8000000 in
theorem PySem.Challenge.cw_sf0043_01_holds : PySem.Challenge.rw_sf0043_01.Holds := by
  exact Mine.law_holds
