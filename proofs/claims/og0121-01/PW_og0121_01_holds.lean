import PyProof.Rows.All
import Wide.All
import OpenK.AllK
import Wide.FinOn
import Lean
import PySem.Challenge.RW_og0121_01
open PySem PySem.W PySem.Calls PyProof.Rows PyProof.V PySem.Spec
set_option Elab.async false
set_option maxRecDepth 100000
set_option maxHeartbeats 8000000
namespace Mine
open_top hd for PySem.Challenge.rw_og0121_01
end Mine
namespace Mine

def CallOK (w : World) (f : Addr) (args : List Value) (news : List (Addr × Obj)) (Post : Value → List (Addr × Obj) → Prop) : Prop :=
  ∀ (mean : ExcName → Option Value) (mg mb : Str → Option Value) (cn : Str) (cs : Scope) (a : Addr) (ccd : Value) (cl : List (Str × Addr))
    (base h₀ : Heap) (L : Addr) (m : Str → Option Value) (s : Shared) (Q E : Value → Shared → Prop),
    Below callerA base [] h₀ → Fr h₀ L s.heap m → (Mine.hd.heap_39 w.params).In h₀ → News h₀ L s.heap news →
    Top Mine.hd.view_39 (looseW Mine.hd.view_39 [Str.ofString "PaperError"]) mean mg mb h₀ → cs.kind = .function →
    (∀ r news' h' tk', Fr h₀ L h' m → News h₀ L h' news' → Post r news' → Q r { s with heap := h', toks := tk' }) →
    wpAny (model PySem.Challenge.rw_og0121_01.row.prog w) (callerA.deeper (envX cn cs L a ccd cl)) (call (.ref f) args) Q E s

theorem fill : (fun (_ : OpenLaw) (_ : Params → Frag) => True) PySem.Challenge.rw_og0121_01 Mine.hd.heap_39 := by
  k_fill
  trivial

theorem news_sub {h₀ h : Heap} {L : Addr} {news news' : List (Addr × Obj)} (N : News h₀ L h news) (hs : ∀ p ∈ news', p ∈ news) : News h₀ L h news' := fun p hp => N p (hs p hp)

/-- the pen: the list [cells, turn, left] -/
abbrev penO (q : Addr) (a : Int) (ta : Tok) (b : Int) (tb : Tok) : Obj := W.listOf #[.ref q, .int a ta, .int b tb] 0
abbrev lstO (vs : List Value) (n : Nat) : Obj := W.listOf vs.toArray n
def PenIs (q : Addr) (o1 o2 : Obj) : Prop := ∃ a ta b tb vs ns n, o1 = penO q a ta b tb ∧ o2 = lstO vs n ∧ IntsAre vs ns ∧ ns.length ≤ 63 ∧ (∀ x ∈ ns, 0 ≤ x) ∧ 0 ≤ a ∧ 0 ≤ b
theorem PenIs.intro {q : Addr} {a b : Int} {ta tb : Tok} {vs : List Value} {ns : List Int} {n : Nat} (h1 : IntsAre vs ns) (h2 : ns.length ≤ 63) (h3 : ∀ x ∈ ns, 0 ≤ x) (h4 : 0 ≤ a) (h5 : 0 ≤ b) : PenIs q (penO q a ta b tb) (lstO vs n) :=
  ⟨a, ta, b, tb, vs, ns, n, rfl, rfl, h1, h2, h3, h4, h5⟩

section
variable {prog : Program} {w : World} {A : Around} {E : Value → Shared → Prop} {s : Shared} {h₀ : Heap} {L D : Addr} {m : Str → Option Value} {news news' : List (Addr × Obj)} {n : Nat}
theorem pop_first {v : Value} {vs : List Value} {u : Tok} {Q : Value → Shared → Prop} (F : Fr h₀ L s.heap m) (N : News h₀ L s.heap news) (U : Upd D (W.listOf (v :: vs).toArray n) (W.listOf vs.toArray (n + 1)) news news')
    (hz : vs.length + 1 ≤ sizeLine) (h : ∀ h', Fr h₀ L h' m → News h₀ L h' news' → Q v { s with heap := h' }) : wpAny (model prog w) A (call (.builtin "list.pop") [.ref D, .int 0 u]) Q E s :=
  kl_popAt (p := []) (q := vs) (y := v) (k := 0) F N rfl (by simp [seqIndex?]) rfl U (by simpa using hz) h
end
end Mine
namespace Mine
theorem fill2 : (fun (_ : OpenLaw) (_ : Params → Frag) => True) PySem.Challenge.rw_og0121_01 Mine.hd.heap_39 := by
  k_fill
  trivial
section
local macro_rules | `(tactic| k_all) => `(tactic| assumption)
local macro_rules | `(tactic| walk_at "call builtin:list.pop") => `(tactic| (k_here; k_dflt (refine' pop_first ?F ?N ?U ?z ?_; (case F => k_asm); (case N => k_asm); (case U => k_upd); (case z => (rename IntsAre _ _ => hI9; have hL9 := IntsAre.length hI9; rw [PySem.sizeLine_eq]; simp only [List.length_cons] at *; omega)); k_whole); intro h' F' N'))
theorem draw_ok (w : World) (P q : Addr) (o1 o2 : Obj) (rest : List (Addr × Obj)) (k : Int) (tk : Tok)
   (hpen : PenIs q o1 o2) (hk : 0 < k) (hk2 : k < 1000000) (hPq : @Ne Nat P q) (hrP : ∀ p ∈ rest, p.1 ≠ P) (hrq : ∀ p ∈ rest, p.1 ≠ q) :
   CallOK w 111 [.ref P, .int k tk] ((P, o1) :: (q, o2) :: rest) (fun r news' => ∃ d td o1' o2', r = .int d td ∧ 0 ≤ d ∧ d < k ∧ PenIs q o1' o2' ∧ news' = (P, o1') :: (q, o2') :: rest) := by
  w_top off
  obtain ⟨a, ta, b, tb, vs, ns, n, rfl, rfl, hi, hlen, h0, ha, hb⟩ := hpen
  unfold CallOK
  intro mean mg mb cn cs aa ccd cl base h₀ L m s Q E B F X N T hkf ret
  have hk3 : k ≠ 0 := by omega
  have hr : ∀ x : Int, 0 ≤ x.fmod k ∧ x.fmod k < k := fun x => ⟨Int.fmod_nonneg_of_pos x hk, Int.fmod_lt_of_pos x hk⟩
  have hd0 : ∀ x : Int, 0 ≤ x → 0 ≤ x.fdiv k := fun x hx => Int.fdiv_nonneg hx (by omega)
  cases hi
  all_goals (
    refine wpAny_call ?_
    k_dflt ktr_enter
    k_steps)
  all_goals (rename Fr h₀ L _ m => kF; rename News h₀ L _ _ => kN)
  all_goals (refine ret _ _ _ _ kF (news_sub kN (by k_sub)) ⟨_, _, _, _, rfl, (hr _).1, (hr _).2, PenIs.intro (by first | assumption | (constructor; assumption) | constructor) ?_ ?_ (by omega) ?_, rfl⟩)
  all_goals first
    | assumption
    | exact hd0 _ hb
    | exact hd0 _ (h0 _ (by simp))
    | (simp at hlen ⊢; omega)
    | (intro x hx; exact h0 x (by simp [hx]))
    | (simp; done)
end
end Mine
namespace Mine

section comp
variable {prog : Program} {w : World} {A : Around} {s : Shared} {h₀ : Heap} {L : Addr} {m : Str → Option Value} {env : Env}
theorem compEnd_mono {I C D : Addr} {s₁ : Shared} {oI oC oD : Obj} {S : List (Addr × Obj) → Prop} {r r' : Value → List (Addr × Obj) → Prop} {y : Value} {s₂ : Shared}
    (h : LCg.CompEnd h₀ L m s₁ I oI C oC D oD S r y s₂) (hr : ∀ nw, r y nw → r' y nw) : LCg.CompEnd h₀ L m s₁ I oI C oC D oD S r' y s₂ := by
  obtain ⟨h', tk, nw, e, F, N, o, hS, x⟩ := h
  exact ⟨h', tk, nw, e, F, N, o, hS, hr _ x⟩

/-- a comprehension without a test, by an invariant over what it has built and the ledger -/
theorem compRest_inv {elt : Expr} {x : Str} {scope : Scope} {cl : List (Str × Addr)} {S : List (Addr × Obj) → Prop} {P : Nat → Value → Prop} {Fin : List Value → List (Addr × Obj) → Prop} {n : Nat}
    (Inv : Nat → List Value → List (Addr × Obj) → Prop)
    (turn : ∀ i ys news v I oI C oC D m₂ h tk (E' : Value → Shared → Prop), i < n → Inv i ys news → P i v → LCg.NsObj oC m₂ → m₂ x = some v → Fr h₀ L h m → News h₀ L h ((I, oI) :: (C, oC) :: (D, LCg.lst ys) :: news) → LCg.Off3 I C D news → ((@Ne Nat I C) ∧ (@Ne Nat I D) ∧ (@Ne Nat C D)) →
      wpAny (model prog w) A (eval elt (compEnvC scope cl C env)) (LCg.CompEnd h₀ L m { s with heap := h, toks := tk } I oI C oC D (LCg.lst ys) S (fun y news' => Inv (i + 1) (ys ++ [y]) news')) E' { s with heap := h, toks := tk })
    (fin : ∀ ys news, Inv n ys news → Fin ys news) :
    ∀ k i ys news, i + k = n → Inv i ys news → LCg.CompRest prog w A h₀ L m env elt x scope cl s S P Fin k i ys news := by
  intro k
  induction k with
  | zero => intro i ys news e hI; exact LCg.CompRest.zero (fin ys news (by rw [← e]; exact hI))
  | succ k ih =>
    intro i ys news e hI
    refine LCg.CompRest.succ fun v I oI C oC D m₂ h tk E' hP hoC hx F N off ne => ?_
    refine wpAny_mono (turn i ys news v I oI C oC D m₂ h tk E' (by omega) hI hP hoC hx F N off ne) (fun y s' hc => ?_) fun _ _ e => e
    exact compEnd_mono hc fun nw hi => ih (i + 1) _ _ (by omega) hi

theorem compRestT_inv {ct elt : Expr} {x : Str} {scope : Scope} {cl : List (Str × Addr)} {S : List (Addr × Obj) → Prop} {P : Nat → Value → Prop} {Fin : List Value → List (Addr × Obj) → Prop} {n : Nat}
    (Inv : Nat → List Value → List (Addr × Obj) → Prop)
    (turn : ∀ i ys news v I oI C oC D m₂ h tk (E' : Value → Shared → Prop), i < n → Inv i ys news → P i v → LCg.NsObj oC m₂ → m₂ x = some v → Fr h₀ L h m → News h₀ L h ((I, oI) :: (C, oC) :: (D, LCg.lst ys) :: news) → LCg.Off3 I C D news → ((@Ne Nat I C) ∧ (@Ne Nat I D) ∧ (@Ne Nat C D)) →
      wpAny (model prog w) A (PySem.isTrue ct (compEnvC scope cl C env) (eval ct (compEnvC scope cl C env))) (fun ok s' => if ok = true then
        wpAny (model prog w) A (eval elt (compEnvC scope cl C env)) (LCg.CompEnd h₀ L m { s with heap := h, toks := tk } I oI C oC D (LCg.lst ys) S (fun y news' => Inv (i + 1) (ys ++ [y]) news')) E' s'
        else LCg.CompEnd h₀ L m { s with heap := h, toks := tk } I oI C oC D (LCg.lst ys) S (fun _ news' => Inv (i + 1) ys news') Value.none s') E' { s with heap := h, toks := tk })
    (fin : ∀ ys news, Inv n ys news → Fin ys news) :
    ∀ k i ys news, i + k = n → Inv i ys news → LCt.CompRestT prog w A h₀ L m env ct elt x scope cl s S P Fin k i ys news := by
  intro k
  induction k with
  | zero => intro i ys news e hI; exact LCt.CompRestT.zero (fin ys news (by rw [← e]; exact hI))
  | succ k ih =>
    intro i ys news e hI
    refine LCt.CompRestT.succ fun v I oI C oC D m₂ h tk E' hP hoC hx F N off ne => ?_
    refine wpAny_mono (turn i ys news v I oI C oC D m₂ h tk E' (by omega) hI hP hoC hx F N off ne) (fun ok s' hc => ?_) fun _ _ e => e
    cases ok with
    | true =>
      simp only [if_true] at hc ⊢
      exact wpAny_mono hc (fun y s'' hc' => compEnd_mono hc' fun nw hi => ih (i + 1) _ _ (by omega) hi) fun _ _ e => e
    | false =>
      simp only [Bool.false_eq_true, if_false] at hc ⊢
      exact compEnd_mono hc fun nw hi => ih (i + 1) _ _ (by omega) hi
end comp

section loop
variable {prog : Program} {w : World} {A : Around} {E : Value → Shared → Prop} {s : Shared} {env : Env} {h₀ : Heap} {x : Str} {body : List Stmt} {Q : Flow → Shared → Prop}

def GrEnd (h₀ : Heap) (L : Addr) (J : (Str → Option Value) → List (Addr × Obj) → Prop) (I : Addr) (oI : Obj) (s₁ s₂ : Shared) : Prop :=
  ∃ h' tk m' nx, s₂ = { s₁ with heap := h', toks := tk } ∧ Fr h₀ L h' m' ∧ News h₀ L h' ((I, oI) :: nx) ∧ (∀ p ∈ nx, p.1 ≠ I) ∧ J m' nx
def GrPost (h₀ : Heap) (L : Addr) (J : (Str → Option Value) → List (Addr × Obj) → Prop) (I : Addr) (oI : Obj) (s₁ : Shared) (Q : Flow → Shared → Prop) (f : Flow) (s₂ : Shared) : Prop :=
  match f with
  | .ret v => Q (.ret v) s₂
  | .brk => Q .next s₂
  | _ => GrEnd h₀ L J I oI s₁ s₂
theorem GrEnd.intro {L I : Addr} {J : (Str → Option Value) → List (Addr × Obj) → Prop} {m' : Str → Option Value} {oI : Obj} {nx : List (Addr × Obj)} {s₁ : Shared} {h' : Heap} {tk : Nat} (F : Fr h₀ L h' m') (N : News h₀ L h' ((I, oI) :: nx))
    (off : ∀ p ∈ nx, p.1 ≠ I) (hj : J m' nx) : GrEnd h₀ L J I oI s₁ { s₁ with heap := h', toks := tk } := ⟨h', tk, m', nx, rfl, F, N, off, hj⟩

/-- a loop over a range, by an invariant over the frame and a ledger that may grow -/
theorem range_grow {r : Addr} {a₀ b₀ : Int} {t₀ u₀ v₀ : Tok} {n : Nat} {m₀ : Str → Option Value} {news : List (Addr × Obj)} (J : Nat → (Str → Option Value) → List (Addr × Obj) → Prop)
    (hh : A.handled = none) (hr : IsRange s.heap r a₀ b₀ 1 t₀ u₀ v₀) (hsmall : Builtin.Range.small a₀ b₀ 1 = true) (hn : Builtin.Range.rangeSize a₀ b₀ 1 = (n : Int)) (F : Fr h₀ env.locals s.heap m₀) (N : News h₀ env.locals s.heap news) (hj : J 0 m₀ news)
    (turn : ∀ i t m₁ nx h tk I oI, i < n → (∀ p ∈ nx, p.1 ≠ I) → J i m₁ nx → Fr h₀ env.locals h (fun y => if y = x then some (.int (a₀ + (i : Int)) t) else m₁ y) → News h₀ env.locals h ((I, oI) :: nx) →
      wpAny (model prog w) A (execs body env) (GrPost h₀ env.locals (J (i + 1)) I oI { s with heap := h, toks := tk } Q) E { s with heap := h, toks := tk })
    (done : ∀ m₁ nx h tk, J n m₁ nx → Fr h₀ env.locals h m₁ → News h₀ env.locals h nx → Q .next { s with heap := h, toks := tk }) :
    wpAny (model prog w) A (pyIter (.ref r)) (fun it s₂ => LoopAtV prog w A h₀ env x body Q E it s₂) E s := by
  refine wpAny_pyIter_range hr hsmall ?_
  have W : Walks prog w A s.heap.objs.size [s.heap.objs.size] [s.heap.objs.size] n (fun i v => i < n ∧ ∃ t, v = .int (a₀ + i * 1) t)
      (fun i h => IsRangeIter h s.heap.objs.size (a₀ + (i : Nat) * 1) ((n : Int) - (i : Nat)) 1) := (Walks.range hh _ a₀ 1 n).bound
  have hst : IsRangeIter (s.heap.push { cls := .type "range_iterator", data := .fields #[.int a₀ 0, .int 1 0, .int (Builtin.Range.rangeSize a₀ b₀ 1) 0, .int 0 0] }) s.heap.objs.size (a₀ + ((0 : Nat) : Int) * 1) ((n : Int) - ((0 : Nat) : Int)) 1 ∨ True := .inr trivial
  refine ⟨_, _, _, n, _, _, m₀, news, J, rfl, W, ?_, ?_, ?_, (by show IsRangeIter _ _ _ _ _; rw [hn]; simpa using Heap.get?_push_size _ rfl), F.push _, (fun p hp => ⟨Heap.get?_push_of_some _ (N p hp).1, (N p hp).2⟩), hj, ?_, ?_⟩
  · intro hm
    exact absurd F.ns.lt ((List.mem_singleton.mp hm) ▸ Nat.lt_irrefl _)
  · intro b hb
    rw [List.mem_singleton.mp hb]
    exact next_is_new F
  · intro p hp hI
    exact absurd (Heap.lt_size (N p hp).1) ((List.mem_singleton.mp hI) ▸ Nat.lt_irrefl _)
  · rintro i v m₁ news₁ s₁ own ⟨hh', tk', rfl⟩ hin ⟨_, t, rfl⟩ hJ hoff hown hat hmem hst F₁ N₁
    have hst' : hh'.get? s.heap.objs.size = some _ := hst
    have hI := hmem _ (.head _) (next_is_new F) _ hst'
    refine wpAny_mono (turn i t m₁ news₁ hh' tk' s.heap.objs.size _ hin (fun p hp e => hoff p hp (List.mem_singleton.mpr e)) hJ (by simpa using F₁)
      (fun p hp => N₁ p (by rcases List.mem_cons.mp hp with rfl | hp; exact List.mem_append_left _ hI; exact List.mem_append_right _ hp))) (fun f s₂ p => ?_) fun _ _ e => e
    have fin : ∀ {oI}, (s.heap.objs.size, oI) ∈ own → GrEnd h₀ env.locals (J (i + 1)) s.heap.objs.size oI { s with heap := hh', toks := tk' } s₂ → LoopStepU h₀ env.locals [s.heap.objs.size] own (J (i + 1)) { s with heap := hh', toks := tk' } .next s₂ := by
      rintro oI hI ⟨h', tk, m', nx, e, F', N', ha, hm⟩
      refine ⟨rfl, h', tk, m', nx, e, F', fun p hp => ?_, fun p hp hq => ha p hp (List.mem_singleton.mp hq), hm⟩
      rcases List.mem_append.mp hp with hp | hp
      · have e1 := List.mem_singleton.mp (hown p hp)
        have e2 := hat p hp
        have e3 := hat _ hI
        rw [e1] at e2
        have e4 : p.2 = oI := Option.some.inj (e2.symm.trans e3)
        have := N' (s.heap.objs.size, oI) (.head _)
        rw [← e1, ← e4] at this
        exact this
      · exact N' p (.tail _ hp)
    cases f with
    | ret v => exact .ret p
    | brk => exact .brk p
    | next => exact .next (fin hI p)
    | cont => exact .cont (fin hI p)
  · rintro h' tk m' news' F' N' _ hJ
    exact done m' news' h' tk hJ F' N'
end loop
end Mine
namespace Mine
/-- the least of ns above k (and above 0), or 0 -/
def nxt (ns : List Int) (k : Int) : Int := ((ns.filter fun x => decide (0 < x) && decide (k < x)).min?).getD 0
def NxtIs (ns : List Int) (k o : Int) : Prop := (o = 0 ∧ ∀ x ∈ ns, 0 < x → x ≤ k) ∨ (o ∈ ns ∧ 0 < o ∧ k < o ∧ ∀ x ∈ ns, 0 < x → k < x → o ≤ x)
theorem nxt_is (ns : List Int) (k : Int) : NxtIs ns k (nxt ns k) := by
  unfold nxt
  cases h : (ns.filter fun x => decide (0 < x) && decide (k < x)).min? with
  | none =>
    left
    refine ⟨rfl, fun x hx h0 => ?_⟩
    rw [List.min?_eq_none_iff, List.filter_eq_nil_iff] at h
    have := h x hx
    simp at this
    exact this h0
  | some o =>
    right
    rw [List.min?_eq_some_iff] at h
    obtain ⟨h1, h2⟩ := h
    rw [List.mem_filter] at h1
    simp at h1
    refine ⟨h1.1, h1.2.1, h1.2.2, fun x hx h0 hk => h2 x ?_⟩
    rw [List.mem_filter]; simp [hx, h0, hk]
theorem NxtIs.unique {ns ms : List Int} {k o o' : Int} (h : NxtIs ns k o) (h' : NxtIs ms k o') (e : ∀ x, 0 < x → (x ∈ ns ↔ x ∈ ms)) : o = o' := by
  rcases h with ⟨rfl, h⟩ | ⟨a, b, c, d⟩ <;> rcases h' with ⟨rfl, h'⟩ | ⟨a', b', c', d'⟩
  · rfl
  · have := h o' ((e o' b').mpr a') b'; omega
  · have := h' o ((e o b).mp a) b; omega
  · have h1 := d o' ((e o' b').mpr a') b' c'
    have h2 := d' o ((e o b).mp a) b c
    omega
/-- what free_chain's dict says -/
def chainS (ns : List Int) (gen : Int → Int) (k : Int) : Option (Int × Int) :=
  if k = 0 ∨ (0 < k ∧ k ∈ ns) then some (nxt ns k, if k = 0 then 65535 else gen k) else none
theorem nxt_congr {ns ms : List Int} (e : ∀ x, 0 < x → (x ∈ ns ↔ x ∈ ms)) (k : Int) : nxt ns k = nxt ms k := (nxt_is ns k).unique (nxt_is ms k) e
theorem chainS_congr {ns ms : List Int} (gen : Int → Int) (e : ∀ x, 0 < x → (x ∈ ns ↔ x ∈ ms)) : chainS ns gen = chainS ms gen := by
  funext k
  unfold chainS
  rw [nxt_congr e k]
  by_cases h : 0 < k
  · simp only [e k h]
  · have h1 : ¬ (0 < k ∧ k ∈ ns) := fun x => h x.1
    have h2 : ¬ (0 < k ∧ k ∈ ms) := fun x => h x.1
    simp [h1, h2]
noncomputable def chF (line : List Int) (gen : Int → Int) : Nat → Int → Option (Int × Int)
  | 0, _ => none
  | i + 1, k => if k = line.getD i 0 then some (line.getD (i + 1) 0, if i = 0 then 65535 else gen (line.getD i 0)) else chF line gen i k
theorem chF_at (line : List Int) (gen : Int → Int) (k : Int) : ∀ i, 
    (∀ j < i, line.getD j 0 ≠ k) ∧ chF line gen i k = none ∨
    ∃ j, j < i ∧ line.getD j 0 = k ∧ (∀ j', j < j' → j' < i → line.getD j' 0 ≠ k) ∧ chF line gen i k = some (line.getD (j + 1) 0, if j = 0 then 65535 else gen (line.getD j 0)) := by
  intro i
  induction i with
  | zero => left; exact ⟨fun j hj => absurd hj (Nat.not_lt_zero _), rfl⟩
  | succ i ih =>
    by_cases h : k = line.getD i 0
    · right
      exact ⟨i, Nat.lt_succ_self _, h.symm, fun j' h1 h2 => by omega, by show (if k = _ then _ else _) = _; rw [if_pos h]⟩
    · have e : chF line gen (i + 1) k = chF line gen i k := by show (if k = _ then _ else _) = _; rw [if_neg h]
      rw [e]
      rcases ih with ⟨h1, h2⟩ | ⟨j, h1, h2, h3, h4⟩
      · left
        refine ⟨fun j hj => ?_, h2⟩
        rcases Nat.lt_succ_iff_lt_or_eq.mp hj with hj | rfl
        · exact h1 j hj
        · exact fun q => h q.symm
      · right
        refine ⟨j, by omega, h2, fun j' a b => ?_, h4⟩
        rcases Nat.lt_succ_iff_lt_or_eq.mp b with b | rfl
        · exact h3 j' a b
        · exact fun q => h q.symm
theorem chF_eq {ns ss : List Int} (gen : Int → Int) (hp : ss.Perm ns) (ho : ss.Pairwise (· ≤ ·)) :
    chF (0 :: ss.filter fun x => decide (0 < x)) gen (0 :: ss.filter fun x => decide (0 < x)).length = chainS ns gen := by
  funext k
  have hmem : ∀ x, x ∈ ss.filter (fun x => decide (0 < x)) ↔ (0 < x ∧ x ∈ ns) := by
    intro x; rw [List.mem_filter]; simp [hp.mem_iff]; exact And.comm
  have hso : (ss.filter fun x => decide (0 < x)).Pairwise (· ≤ ·) := ho.filter _
  generalize ss.filter (fun x => decide (0 < x)) = pos at hmem hso
  have hline : (0 :: pos).Pairwise (· ≤ ·) := List.pairwise_cons.mpr ⟨fun x hx => Int.le_of_lt ((hmem x).mp hx).1, hso⟩
  have hget : ∀ j, j < (0 :: pos).length → (0 :: pos).getD j 0 ∈ (0 :: pos) := fun j hj => by
    rw [List.getD_eq_getElem?_getD, List.getElem?_eq_getElem hj]; exact List.getElem_mem hj
  have hmono : ∀ i j, i < j → j < (0 :: pos).length → (0 :: pos).getD i 0 ≤ (0 :: pos).getD j 0 := fun i j hij hj => by
    rw [List.getD_eq_getElem?_getD, List.getD_eq_getElem?_getD, List.getElem?_eq_getElem hj, List.getElem?_eq_getElem (Nat.lt_trans hij hj)]
    exact List.pairwise_iff_getElem.mp hline i j (Nat.lt_trans hij hj) hj hij
  have hidx : ∀ x ∈ (0 :: pos), ∃ j, j < (0 :: pos).length ∧ (0 :: pos).getD j 0 = x := fun x hx => by
    obtain ⟨j, hj, e⟩ := List.getElem_of_mem hx
    exact ⟨j, hj, by rw [List.getD_eq_getElem?_getD, List.getElem?_eq_getElem hj]; exact e⟩
  have hpos : ∀ j, 0 < j → j < (0 :: pos).length → 0 < (0 :: pos).getD j 0 := fun j h0 hj => by
    obtain ⟨i, rfl⟩ : ∃ i, j = i + 1 := ⟨j - 1, by omega⟩
    have : (0 :: pos).getD (i + 1) 0 = pos.getD i 0 := by simp [List.getD]
    rw [this]
    have hi : i < pos.length := by simpa using hj
    rw [List.getD_eq_getElem?_getD, List.getElem?_eq_getElem hi]
    exact ((hmem _).mp (List.getElem_mem hi)).1
  rcases chF_at (0 :: pos) gen k (0 :: pos).length with ⟨h1, h2⟩ | ⟨j, h1, h2, h3, h4⟩
  · rw [h2]
    have : ¬ (k = 0 ∨ (0 < k ∧ k ∈ ns)) := by
      intro q
      have hk : k ∈ (0 :: pos) := by
        rcases q with rfl | q
        · exact .head _
        · exact .tail _ ((hmem k).mpr q)
      obtain ⟨j, hj, e⟩ := hidx k hk
      exact h1 j hj e
    unfold chainS
    rw [if_neg this]
  · rw [h4]
    have hk : k ∈ (0 :: pos) := h2 ▸ hget j h1
    have hk' : k = 0 ∨ (0 < k ∧ k ∈ ns) := by
      rcases List.mem_cons.mp hk with e | e
      · exact .inl e
      · exact .inr ((hmem k).mp e)
    have hj0 : j = 0 ↔ k = 0 := by
      constructor
      · rintro rfl; rw [← h2]; rfl
      · intro e
        rcases Nat.eq_zero_or_pos j with q | q
        · exact q
        · have := hpos j q h1; omega
    have hn : NxtIs ns k ((0 :: pos).getD (j + 1) 0) := by
      by_cases hj : j + 1 < (0 :: pos).length
      · right
        have p1 := hpos (j + 1) (Nat.succ_pos _) hj
        have m1 := hget (j + 1) hj
        have l1 := hmono j (j + 1) (Nat.lt_succ_self _) hj
        have n1 := h3 (j + 1) (Nat.lt_succ_self _) hj
        have mm : (0 :: pos).getD (j + 1) 0 ∈ ns := by
          rcases List.mem_cons.mp m1 with e | e
          · omega
          · exact ((hmem _).mp e).2
        refine ⟨mm, p1, by omega, fun x hx h0 hkx => ?_⟩
        obtain ⟨i, hi, e⟩ := hidx x (.tail _ ((hmem x).mpr ⟨h0, hx⟩))
        rcases Nat.lt_or_ge j i with q | q
        · rcases Nat.lt_or_ge (j + 1) i with q' | q'
          · have := hmono (j + 1) i q' hi; omega
          · have : i = j + 1 := by omega
            subst this; omega
        · rcases Nat.lt_or_ge i j with q' | q'
          · have := hmono i j q' h1; omega
          · have : i = j := by omega
            subst this; omega
      · left
        have e0 : (0 :: pos).getD (j + 1) 0 = 0 := by
          rw [List.getD_eq_getElem?_getD, List.getElem?_eq_none (by omega)]; rfl
        refine ⟨e0, fun x hx h0 => ?_⟩
        obtain ⟨i, hi, e⟩ := hidx x (.tail _ ((hmem x).mpr ⟨h0, hx⟩))
        rcases Nat.lt_or_ge i j with q' | q'
        · have := hmono i j q' h1; omega
        · have : i = j := by omega
          subst this; omega
    unfold chainS
    rw [if_pos hk', hn.unique (nxt_is ns k) (fun _ _ => Iff.rfl), h2]
    by_cases q : k = 0
    · rw [if_pos (hj0.mpr q), if_pos q]
    · rw [if_neg (fun r => q (hj0.mp r)), if_neg q]
end Mine
namespace Mine
/-- a halt of the walk -/
structure Stop (P : Prop) : Prop where
  out : P
theorem stop {P : Prop} (h : Stop P) : P := h.out

theorem ints_mem {vs : List Value} {ns : List Int} (h : IntsAre vs ns) : ∀ v ∈ vs, ∃ k ∈ ns, ∃ t, v = .int k t := by
  induction h with
  | nil => intro v hv; cases hv
  | cons k t _ ih =>
    intro v hv
    rcases List.mem_cons.mp hv with rfl | hv
    · exact ⟨k, .head _, t, rfl⟩
    · obtain ⟨k', hk, t', e⟩ := ih v hv
      exact ⟨k', .tail _ hk, t', e⟩
theorem ints_at {vs : List Value} {ns : List Int} (h : IntsAre vs ns) {i : Nat} {v : Value} (hv : vs[i]? = some v) : ∃ k t, ns[i]? = some k ∧ v = .int k t := by
  induction h generalizing i with
  | nil => simp at hv
  | cons k t _ ih =>
    cases i with
    | zero => simp at hv; exact ⟨k, t, by simp, hv.symm⟩
    | succ i => simp at hv; simpa using ih hv

section
variable {prog : Program} {w : World} {A : Around} {E : Value → Shared → Prop} {s : Shared} {h₀ : Heap} {L l b : Addr} {m : Str → Option Value} {news : List (Addr × Obj)} {vs us : List Value} {ns ms : List Int} {n n' : Nat} {Q : Value → Shared → Prop}
theorem sorted_news (F : Fr h₀ L s.heap m) (N : News h₀ L s.heap news) (hm : (l, lstO vs n) ∈ news) (hi : IntsAre vs ns) (h64 : ns.length < 64)
    (h : ∀ D vs' ns' c h', Fr h₀ L h' m → News h₀ L h' ((D, lstO vs' c) :: news) → (∀ q ∈ news, q.1 < D) → IntsAre vs' ns' → ns'.Perm ns → ns'.Pairwise (· ≤ ·) → Q (.ref D) { s with heap := h' }) :
    wpAny (model prog w) A (call (.builtin "sorted") [.ref l]) Q E s :=
  kso_sorted F N (News.isList N hm) hi h64 fun D vs' ns' c h' F' N' l1 a _ b c' _ => h D vs' ns' c h' F' N' l1 a b c'
theorem add_news (F : Fr h₀ L s.heap m) (N : News h₀ L s.heap news) (hm : (l, lstO vs n) ∈ news) (hb : (b, lstO us n') ∈ news) (hi : IntsAre vs ns) (hj : IntsAre us ms)
    (hz : ns.length + ms.length ≤ 1000) (h : ∀ D ws h', Fr h₀ L h' m → News h₀ L h' ((D, lstO ws 0) :: news) → (∀ p ∈ news, p.1 < D) → IntsAre ws (ns ++ ms) → Q (.ref D) { s with heap := h' }) :
    wpAny (model prog w) A (binaryOp .Add (.ref l) (.ref b)) Q E s :=
  kmk_add_ints F N (News.isList N hm) (News.isList N hb) hi hj h (by rw [PySem.sizeLine_eq]; omega)
theorem item_news {value slice : PySem.Expr} {k : Int} {u : Tok} (N : News h₀ L s.heap news) (hm : (l, lstO vs n) ∈ news) (hi : IntsAre vs ns)
    (h0 : 0 ≤ k) (h1 : k < ns.length) (hz : ns.length ≤ 1000) (h : ∀ t, Q (.int (ns.getD k.toNat 0) t) s)
    (hs : subscripted slice false (.ref l) (.int k u) = operate [.ref l, .int k u] (getItem (.ref l) (.int k u)) := by with_unfolding_all rfl) :
    wpAny (model prog w) A (subscriptTail value slice (.ref l) (.int k u)) Q E s :=
  item_list_intsR (News.isList N hm) hi h0 h1 (by omega) h hs
theorem len_news (N : News h₀ L s.heap news) (hm : (l, lstO vs n) ∈ news) (hi : IntsAre vs ns) (hz : ns.length ≤ 1000) (h : Q (.int (ns.length : Nat) (s.toks + 1)) { s with toks := s.toks + 1 + 1 }) :
    wpAny (model prog w) A (call (.builtin "len") [.ref l]) Q E s := len_ints_fit (News.isList N hm) hi (by omega) h
theorem notin_news {k : Int} {t : Tok} (N : News h₀ L s.heap news) (hm : (l, lstO vs n) ∈ news) (hi : IntsAre vs ns) (h : Q (.bool (!decide (k ∈ ns))) s) :
    wpAny (model prog w) A (compareOp .NotIn (.int k t) (.ref l)) Q E s := by
  refine notin_list_ints (News.isList N hm) hi ?_
  have e : (ns.any (· == k)) = decide (k ∈ ns) := by
    rw [Bool.eq_iff_iff]; simp [List.any_eq_true]
  rw [e]; exact h
theorem get_news {o : Obj} {kvs : List (Int × Value)} {d : Addr} {k : Int} {t : Tok} {x : Value} (N : News h₀ L s.heap news) (hm : (d, o) ∈ news) (hd : o.IsDictOf (PySem.intKind prog w) kvs) (lo : (d == sysModules) = false)
    (h : Q ((valueAt kvs k).getD x) { s with toks := s.toks + 1 }) : wpAny (model prog w) A (call (.builtin "dict.get") [.ref d, .int k t, x]) Q E s := by
  have hD := kda_dict N hm hd
  exact call_meetsIn PySem.F.slot_dict_get hD.typeIs PySem.F.entry_dict_get (PySem.F.args_dict_get_3 _ _ _) (meets_dict_get_default (intKind prog w) d (intKind_is _ _ _ _) lo x) ⟨_, hD.mapOf, h⟩
theorem get1_news {o : Obj} {kvs : List (Int × Value)} {d : Addr} {k : Int} {t : Tok} (N : News h₀ L s.heap news) (hm : (d, o) ∈ news) (hd : o.IsDictOf (PySem.intKind prog w) kvs) (lo : (d == sysModules) = false)
    (h : Q ((valueAt kvs k).getD .none) { s with toks := s.toks + 1 }) : wpAny (model prog w) A (call (.builtin "dict.get") [.ref d, .int k t]) Q E s := by
  have hD := kda_dict N hm hd
  exact call_meetsIn PySem.F.slot_dict_get hD.typeIs PySem.F.entry_dict_get (PySem.F.args_dict_get_2 _ _) (meets_dict_get (intKind prog w) d (intKind_is _ _ _ _) lo) ⟨_, hD.mapOf, h⟩
theorem getMethod_news {o : Obj} {kvs : List (Int × Value)} {d : Addr} {pl : Sem Bool} {Q : Value × List Value → Shared → Prop} (N : News h₀ L s.heap news) (hm : (d, o) ∈ news) (hd : o.IsDictOf (PySem.intKind prog w) kvs)
    (h : Q (.builtin "dict.get", [.ref d]) s) : wpAny (model prog w) A (getMethod (.ref d) "get" pl) Q E s :=
  kob_method PySem.F.slot_dict_get PySem.F.type_dict_get N hm hd h
theorem item_dict_news {value slice : PySem.Expr} {o : Obj} {kvs : List (Int × Value)} {d : Addr} {k : Int} {t : Tok} {v : Value} (N : News h₀ L s.heap news) (hm : (d, o) ∈ news) (hd : o.IsDictOf (PySem.intKind prog w) kvs)
    (hl : valueAt kvs k = some v) (h : Q v { s with toks := s.toks + 1 })
    (hs : subscripted slice false (.ref d) (.int k t) = operate [.ref d, .int k t] (getItem (.ref d) (.int k t)) := by with_unfolding_all rfl) :
    wpAny (model prog w) A (subscriptTail value slice (.ref d) (.int k t)) Q E s :=
  have hD := kda_dict N hm hd
  subscriptTail_builtinR hD.typeIs slot_dict_getitem.lookup (wpAny_getItem_of (Q := fun r s' => r = v ∧ Q r s') (intKind_is _ _ _ _) hD.mapOf hl ⟨rfl, h⟩) hs
theorem set_news {o : Obj} {kvs : List (Int × Value)} {d : Addr} {k : Int} {t : Tok} {v : Value} {g : Obj → List (Addr × Obj)} {Q : Unit → Shared → Prop} (F : Fr h₀ L s.heap m) (N : News h₀ L s.heap news) (U : UpdF d o news g)
    (hd : o.IsDictOf (PySem.intKind prog w) kvs) (hsz : kvs.length ≤ 1000)
    (h : ∀ h' o', Fr h₀ L h' m → News h₀ L h' (g o') → o'.IsDictOf (PySem.intKind prog w) (stored kvs k v) → Q () { s with heap := h', toks := s.toks + 1 }) : wpAny (model prog w) A (setItem (.ref d) (.int k t) v) Q E s :=
  kda_set F N U hd (intKind_is _ _ _ _) (by rw [PySem.sizeLine_eq]; omega) h
end
end Mine
namespace Mine
theorem fr_congr {h₀ h : Heap} {L : Addr} {m m' : Str → Option Value} (F : Fr h₀ L h m) (e : m = m') : Fr h₀ L h m' := e ▸ F
theorem lookup1 (a : Str) (u : Value) : (fun y => List.lookup y [(a, u)]) = fun y => if y = a then some u else none := by
  funext y
  by_cases h : y = a
  · subst h; simp [List.lookup]
  · have : (y == a) = false := by simpa using h
    simp [List.lookup, this, h]
theorem lookup2 (a b : Str) (u v : Value) : (fun y => List.lookup y [(a, u), (b, v)]) = fun y => if y = a then some u else if y = b then some v else none := by
  funext y
  by_cases h : y = a
  · subst h; simp [List.lookup]
  · have e : (y == a) = false := by simpa using h
    simp only [List.lookup, e, if_neg h]
    exact congrFun (lookup1 b v) y

/-- a dict with int values, read with the default 0 -/
def GenIs (kvs : List (Int × Value)) (gen : Int → Int) : Prop := ∀ k, (∃ t, valueAt kvs k = some (.int (gen k) t)) ∨ (valueAt kvs k = none ∧ gen k = 0)
/-- an Entry of the ledger: its one, its two -/
def EntryAt (P : Params) (news : List (Addr × Obj)) (v : Value) (e : Int × Int) : Prop :=
  ∃ x dx t1 t2 t3 t4 t5 t6 n, v = .ref x ∧ (x, instObj 78 dx) ∈ news ∧
    (dx, dictOf [⟨PyData.keyHash P "way", .str "way" t1, .str "free" t2⟩, ⟨PyData.keyHash P "one", .str "one" t3, .int e.1 t4⟩, ⟨PyData.keyHash P "two", .str "two" t5, .int e.2 t6⟩] n) ∈ news
theorem EntryAt.mono {P : Params} {news news' : List (Addr × Obj)} {v : Value} {e : Int × Int} (h : EntryAt P news v e) (hs : ∀ p ∈ news, p ∈ news') : EntryAt P news' v e := by
  obtain ⟨x, dx, t1, t2, t3, t4, t5, t6, n, e1, h1, h2⟩ := h
  exact ⟨x, dx, t1, t2, t3, t4, t5, t6, n, e1, hs _ h1, hs _ h2⟩
/-- what a dict of Entries says -/
def EntsAre (P : Params) (news : List (Addr × Obj)) (kvs : List (Int × Value)) (f : Int → Option (Int × Int)) : Prop :=
  ∀ k, match f k with
    | none => valueAt kvs k = none
    | some e => ∃ v, valueAt kvs k = some v ∧ EntryAt P news v e
theorem valueAt_stored (kvs : List (Int × Value)) (k j : Int) (v : Value) : valueAt (stored kvs k v) j = if j = k then some v else valueAt kvs j := by
  unfold stored
  split
  · rename_i h
    induction kvs with
    | nil => simp at h
    | cons p r ih =>
      obtain ⟨a, b⟩ := p
      simp only [valueAt, List.map_cons, List.find?_cons] at ih ⊢
      by_cases ha : a = k
      · subst ha
        simp only [if_true]
        by_cases hj : j = a
        · subst hj; simp
        · have h1 : ¬ a = j := fun e => hj e.symm
          simp only [h1, hj, decide_false, if_false]
          by_cases hr : (r.any fun kv => decide (kv.1 = a)) = true
          · have := ih hr; simp only [if_neg hj] at this; exact this
          · have hr' : r.map (fun kv => if kv.1 = a then (kv.1, v) else kv) = r := by
              rw [List.map_congr_left (g := id)]
              · simp
              · intro q hq
                have : ¬ q.1 = a := by
                  intro e; apply hr; rw [List.any_eq_true]; exact ⟨q, hq, by simpa using e⟩
                simp [this]
            rw [hr']
      · simp only [if_neg ha]
        have hr : (r.any fun kv => decide (kv.1 = k)) = true := by
          simpa [List.any_cons, ha] using h
        by_cases hj : a = j
        · subst hj; simp [ha]
        · simp only [hj, decide_false]
          exact ih hr
  · rename_i h
    simp only [valueAt, List.find?_append]
    by_cases hj : j = k
    · subst hj
      have : kvs.find? (fun kv => decide (kv.1 = j)) = none := by
        rw [List.find?_eq_none]
        intro q hq e
        apply h; rw [List.any_eq_true]; exact ⟨q, hq, e⟩
      simp [this]
    · have h1 : ¬ k = j := fun e => hj e.symm
      simp [hj, h1]
theorem stored_len (kvs : List (Int × Value)) (k : Int) (v : Value) : (stored kvs k v).length ≤ kvs.length + 1 := by
  unfold stored
  split <;> simp
section
variable {prog : Program} {w : World} {A : Around} {E : Value → Shared → Prop} {s : Shared} {h₀ : Heap} {L : Addr} {news : List (Addr × Obj)} {Q : Value → Shared → Prop}
theorem get_gen {o : Obj} {kvs : List (Int × Value)} {gen : Int → Int} {d : Addr} {k : Int} {t u : Tok} (N : News h₀ L s.heap news) (hm : (d, o) ∈ news) (hd : o.IsDictOf (PySem.intKind prog w) kvs) (hg : GenIs kvs gen) (lo : (d == sysModules) = false)
    (h : ∀ t', Q (.int (gen k) t') { s with toks := s.toks + 1 }) : wpAny (model prog w) A (call (.builtin "dict.get") [.ref d, .int k t, .int 0 u]) Q E s := by
  refine get_news N hm hd lo ?_
  rcases hg k with ⟨t', e⟩ | ⟨e, e0⟩
  · rw [e]; exact h t'
  · rw [e]; have := h u; rw [e0] at this; exact this
end
end Mine

namespace Mine
def chJ (prog : Program) (w : World) (gen : Int → Int) (line : List Int) (d D : Addr) (lo : Obj) (rest : List (Addr × Obj)) (m₀ : Str → Option Value) (i : Nat) (m₁ : Str → Option Value) (nx : List (Addr × Obj)) : Prop :=
  (∃ u u', m₁ = fun z => if z = Str.ofString "later" then u else if z = Str.ofString "at" then u' else m₀ z) ∧
  ∃ o tl kvs, nx = (d, o) :: (D, lo) :: (tl ++ rest) ∧ o.IsDictOf (PySem.intKind prog w) kvs ∧ kvs.length ≤ i ∧ (∀ p ∈ tl ++ rest, p.1 ≠ d) ∧ (∀ p ∈ tl, d < p.1) ∧ EntsAre w.params tl kvs (chF line gen i)
theorem map_two_again {a b : Str} {v v' u u' : Option Value} {m₀ : Str → Option Value} (hab : a ≠ b) :
    (fun y => if y = a then v else if y = b then v' else if y = a then u else if y = b then u' else m₀ y) = fun y => if y = a then v else if y = b then v' else m₀ y := by
  funext y
  by_cases h1 : y = a
  · simp [h1]
  · by_cases h2 : y = b
    · simp [h2]
    · simp [h1, h2]
theorem chEnd {prog : Program} {w : World} {gen : Int → Int} {line : List Int} {d D L x dx I : Addr} {lo o' oI : Obj} {rest tl : List (Addr × Obj)} {m₀ : Str → Option Value} {i : Nat} {u u' v v' : Option Value} {h₀ h' : Heap} {s₁ : Shared} {tk : Nat}
    {kv9 : List (Int × Value)} {o9 : Obj} {key one two : Int} {t1 t2 t3 t4 t5 t6 : Tok} {n : Nat}
    (F : Fr h₀ L h' (fun y => if y = Str.ofString "later" then v else if y = Str.ofString "at" then v' else if y = Str.ofString "later" then u else if y = Str.ofString "at" then u' else m₀ y))
    (N : News h₀ L h' ((x, instObj 78 dx) :: (dx, dictOf [⟨PyData.keyHash w.params "way", .str "way" t1, .str "free" t2⟩, ⟨PyData.keyHash w.params "one", .str "one" t3, .int one t4⟩, ⟨PyData.keyHash w.params "two", .str "two" t5, .int two t6⟩] n) ::
      (I, oI) :: (d, o') :: (D, lo) :: (tl ++ rest)))
    (hd' : o'.IsDictOf (PySem.intKind prog w) (stored kv9 key (.ref x))) (hk : kv9.length ≤ i) (hne : ∀ p ∈ tl ++ rest, p.1 ≠ d) (hlt : ∀ p ∈ tl, d < p.1) (hE : EntsAre w.params tl kv9 (chF line gen i))
    (off : ∀ p ∈ ((d, o9) :: (D, lo) :: (tl ++ rest) : List (Addr × Obj)), p.1 ≠ I) (h1 : d < dx) (h2 : dx < x) (h3 : @LT.lt Nat _ I dx)
    (ek : key = line.getD i 0) (eo : one = line.getD (i + 1) 0) (et : two = if i = 0 then 65535 else gen (line.getD i 0)) :
    GrEnd h₀ L (chJ prog w gen line d D lo rest m₀ (i + 1)) I oI s₁ { s₁ with heap := h', toks := tk } := by
  subst ek eo et
  have hab : Str.ofString "later" ≠ Str.ofString "at" := by decide
  refine GrEnd.intro (nx := (d, o') :: (D, lo) :: (([(x, instObj 78 dx), (dx, dictOf [⟨PyData.keyHash w.params "way", .str "way" t1, .str "free" t2⟩, ⟨PyData.keyHash w.params "one", .str "one" t3, .int (line.getD (i + 1) 0) t4⟩, ⟨PyData.keyHash w.params "two", .str "two" t5, .int (if i = 0 then 65535 else gen (line.getD i 0)) t6⟩] n)] ++ tl) ++ rest)) F
    (news_sub N ?_) ?_ ⟨⟨v, v', map_two_again hab⟩, o', _, _, rfl, hd', ?_, ?_, ?_, ?_⟩
  · intro p hp
    simp only [List.cons_append, List.nil_append, List.mem_cons, List.mem_append] at hp ⊢
    rcases hp with h | h | h | h | h | h <;> simp [h]
  · intro p hp
    simp only [List.cons_append, List.nil_append, List.mem_cons, List.mem_append] at hp
    rcases hp with h | h | h | h | h
    · rw [h]; exact off (d, o9) (.head _)
    · exact off p (by rw [h]; exact .tail _ (.head _))
    · rw [h]; exact Nat.ne_of_gt (Nat.lt_trans h3 h2)
    · rw [h]; exact Nat.ne_of_gt h3
    · exact off p (.tail _ (.tail _ (by rcases h with h | h; exact List.mem_append_left _ h; exact List.mem_append_right _ h)))
  · exact Nat.le_trans (stored_len _ _ _) (Nat.succ_le_succ hk)
  · intro p hp
    simp only [List.cons_append, List.nil_append, List.mem_cons, List.mem_append] at hp
    rcases hp with h | h | h
    · rw [h]; exact Nat.ne_of_gt (Nat.lt_trans h1 h2)
    · rw [h]; exact Nat.ne_of_gt h1
    · exact hne p (by rcases h with h | h; exact List.mem_append_left _ h; exact List.mem_append_right _ h)
  · intro p hp
    simp only [List.cons_append, List.nil_append, List.mem_cons] at hp
    rcases hp with h | h | h
    · rw [h]; exact Nat.lt_trans h1 h2
    · rw [h]; exact h1
    · exact hlt p h
  · intro k
    have := hE k
    rw [valueAt_stored]
    show (match (if k = line.getD i 0 then some _ else chF line gen i k) with | none => _ | some e => _)
    by_cases hk : k = line.getD i 0
    · simp only [if_pos hk]
      exact ⟨.ref x, rfl, x, dx, t1, t2, t3, t4, t5, t6, n, rfl, .head _, .tail _ (.head _)⟩
    · simp only [if_neg hk]
      cases e : chF line gen i k with
      | none => rw [e] at this; exact this
      | some e' =>
        rw [e] at this
        obtain ⟨v, hv, hv'⟩ := this
        exact ⟨v, hv, hv'.mono fun p hp => .tail _ (.tail _ hp)⟩
end Mine
namespace Mine
section
open LCg
variable {prog : Program} {w : World} {A : Around} {E : Value → Shared → Prop} {s : Shared} {h₀ : Heap} {L : Addr} {m : Str → Option Value} {env : Env}
def KeyP (kvs : List (Int × Value)) (i : Nat) (v : Value) : Prop := ∃ k t, (kvs.map (·.1))[i]? = some k ∧ v = .int k t
def SrcD (prog : Program) (w : World) (A : Around) (h₀ : Heap) (L : Addr) (m : Str → Option Value) (env : Env) (elt : PySem.Expr) (x : Str) (scope : Scope) (cl : List (Str × Addr)) (Fin : Shared → List Value → List (Addr × Obj) → Prop) (xv : Value) (s₁ : Shared) : Prop :=
  ∃ d o kvs news, xv = .ref d ∧ A.handled = none ∧ Fr h₀ L s₁.heap m ∧ News h₀ L s₁.heap news ∧ (d, o) ∈ news ∧ o.IsDictOf (PySem.intKind prog w) kvs ∧ (d == sysModules) = false ∧ kvs.length ≤ sizeLine ∧
    ∀ s₂ : Shared, (∃ h, s₂ = { s₁ with heap := h }) → CompRest prog w A h₀ L m env elt x scope cl s₂ (fun nw => (d, o) ∈ nw) (KeyP kvs) (Fin s₂) kvs.length 0 [] news
theorem SrcD.intro {elt : PySem.Expr} {x : Str} {scope : Scope} {cl : List (Str × Addr)} {Fin : Shared → List Value → List (Addr × Obj) → Prop} {d : Addr} {o : Obj} {kvs : List (Int × Value)} {news : List (Addr × Obj)} {s₁ : Shared}
    (hh : A.handled = none) (F : Fr h₀ L s₁.heap m) (N : News h₀ L s₁.heap news) (hm : (d, o) ∈ news) (hd : o.IsDictOf (PySem.intKind prog w) kvs) (lo : (d == sysModules) = false) (hsz : kvs.length ≤ 1000)
    (h : ∀ g, CompRest prog w A h₀ L m env elt x scope cl { s₁ with heap := g } (fun nw => (d, o) ∈ nw) (KeyP kvs) (Fin { s₁ with heap := g }) kvs.length 0 [] news) :
    SrcD prog w A h₀ L m env elt x scope cl Fin (.ref d) s₁ := ⟨d, o, kvs, news, rfl, hh, F, N, hm, hd, lo, by rw [PySem.sizeLine_eq]; omega, fun _ ⟨g, e⟩ => e ▸ h g⟩
theorem compRest_P {elt : PySem.Expr} {x : Str} {scope : Scope} {cl : List (Str × Addr)} {S : List (Addr × Obj) → Prop} {P P' : Nat → Value → Prop} {Fin : List Value → List (Addr × Obj) → Prop} (hP : ∀ i v, P' i v → P i v) :
    ∀ k i ys news, CompRest prog w A h₀ L m env elt x scope cl s S P Fin k i ys news → CompRest prog w A h₀ L m env elt x scope cl s S P' Fin k i ys news := by
  intro k
  induction k with
  | zero => intro i ys news h; exact h
  | succ k ih =>
    intro i ys news h
    refine CompRest.succ fun v I oI C oC D m₂ h' tk E' hp hoC hx F N off ne => ?_
    exact wpAny_mono (h v I oI C oC D m₂ h' tk E' (hP _ _ hp) hoC hx F N off ne) (fun y s' hc => compEnd_mono hc fun nw hi => ih _ _ _ hi) fun _ _ e => e
theorem ListComp_UD {elt iter : PySem.Expr} {x : Str} {px : Pos} {scope : Scope} {cl : List (Str × Addr)} {pos : Pos} {Q : Value → Shared → Prop} (F₀ : Fr h₀ L s.heap m)
    (hclos : closureFor scope env = pure cl) (hcell : ∀ y ∈ scope.names, y.2 ≠ .cell) (hkind : scope.kind = .function)
    (hnames : ∀ y ∈ scope.names, y.2 = .local → scope.names.lookup y.1 = some .local) (hx : scope.names.lookup x = some .local)
    (h : wpAny (model prog w) A (eval iter env) (SrcD prog w A h₀ L m env elt x scope cl (fun s₂ => FinE h₀ L m s₂ Q)) E s)
    (hs : ∀ x, foldedSetIterable iter env x = pure x := by intro _; rfl) :
    wpAny (model prog w) A (eval (.ListComp elt [⟨.Name x px, iter, [], 0⟩] scope pos) env) Q E s := by
  rw [eval_ListComp]
  refine wpAny_comprehension_free (use := none) rfl hs hclos hkind hnames (wpAny_mono h (fun xv s₁ h₁ => ?_) fun _ _ e => e)
  obtain ⟨d, o, kvs, news, rfl, hh, F, N, hm, hd, lo, hsz, R⟩ := h₁
  obtain ⟨es, ep, hx1, hdat, hk, hp, hn⟩ := hd
  have at' : ∀ {h' : Heap} {nw : List (Addr × Obj)}, News h₀ L h' nw → (d, o) ∈ nw → h'.DictAt (PySem.intKind prog w) d kvs ep := fun N' hm' => ⟨o, es, (N' _ hm').1, hx1, hdat, hk, hp, hn⟩
  have hat := at' N hm
  have hlt : d < s₁.heap.objs.size := Heap.lt_size (N _ hm).1
  refine wpAny_pyIter_dict lo hat ?_
  have up : ∀ oI b o, s₁.heap.get? b = some o → (s₁.heap.push oI).get? b = some o := fun oI b o e => Heap.get?_push_of_some _ e
  refine block_U (S := fun nw => (d, o) ∈ nw) (Walks.dictKeys hh s₁.heap.objs.size d (Nat.ne_of_lt hlt) kvs ep) hsz (fun i h st => by obtain ⟨o, e, _⟩ := st.1; exact ⟨o, e⟩)
    (fun i h h' o' nw st e e' k N' S' => ⟨by obtain ⟨o'', q, r⟩ := st.1; rw [e] at q; cases q; exact ⟨o', e', r⟩, at' N' S'⟩)
    hcell hkind hx ⟨⟨_, Heap.get?_push_size _ rfl, rfl, rfl⟩, hat.push _⟩ (fun b hb => ?_)
    (F.keeps (up _)) (N.grown (up _)) (Nat.ne_of_lt F.ns.lt) (next_is_new F) (fun p hp => Nat.ne_of_lt (Heap.lt_size (N p hp).1)) hm (compRest_P (P := KeyP kvs) ?_ _ _ _ _ (R _ ⟨_, rfl⟩)) ?_
  · show b < (s₁.heap.push _).objs.size
    rw [Heap.size_push]
    rcases List.mem_cons.mp hb with rfl | hb
    · exact Nat.lt_succ_self _
    · rw [List.mem_singleton.mp hb]; exact Nat.lt_succ_of_lt hlt
  · rintro i v ⟨k, x, h1, h2⟩
    obtain ⟨t, rfl⟩ := Value.isInt_shape h2
    exact ⟨k, t, by simp [h1], rfl⟩
  · intro D C h' tk m' ys news' F' N' o1 hn hC₀ hD₀ hCL hDL hCD offC fin
    refine ⟨m', hn, fun h'' hs'' => fin D h'' tk (F'.change hs'' hCL hC₀) (fun p hp => ?_) o1⟩
    refine ⟨hs''.extBut _ _ ?_ (N' p hp).1, (N' p hp).2⟩
    rcases List.mem_cons.mp hp with rfl | hp
    · exact Ne.symm hCD
    · exact offC p hp
end
end Mine
namespace Mine
theorem getAttr_none_list {prog : Program} {w : World} {A : Around} {E : Value → Shared → Prop} {s : Shared} {a : Addr} {xs : Array Value} {k : Nat} {name : Str} {Q : Option Value → Shared → Prop}
    (hx : s.heap.get? a = some { cls := .type "list", dict := none, data := .seq xs k }) (hmiss : typeLookup (.type "list") name = pure none) (hname : (["__module__", "__name__", "__qualname__", "__doc__", "__annotations__"] : List Str).contains name = false) (hA : A.handled = none)
    (h : ∀ h' tk e, Heap.NewExcOf s.heap h' e "AttributeError" → Q none { s with heap := h', toks := tk }) (hsz : name.length + 100 ≤ sizeLine := by size_fits) :
    wpAny (model prog w) A (getAttr? (.ref a) name) Q E s := by
  obtain ⟨hp, g, d, tk, os⟩ := s
  have hT : ∀ tk', (⟨hp, g, d, tk', os⟩ : Shared).TypeIs (.ref a) "list" := fun _ => ⟨_, hx, rfl⟩
  have f1 := sub_AttributeError
  have f3 := PySem.F.slot_list_getattribute.lookup
  have f4 := PySem.F.slot_list_getattribute.bind (.ref a)
  have f5 := am_list_getattr_none
  unfold getAttr? getAttrBy? getAttrBy
  repeat (any_goals (first | assumption | exact hT _ | ((with_reducible show wpAny _ _ (call (Value.builtin "list.__getattribute__") _ _) _ _ _); refine call_meets PySem.F.slot_list_getattribute (hT _) am_entry_list_getattribute (PySem.F.args_list_getattribute_2 _ _) (meets_getattribute_miss_list a xs k #[] name _ hmiss hname hsz) ⟨hx, hA, fun h' tk' e hx' => ?_⟩) | wp_step))
  obtain ⟨t', u', he⟩ := hx'.there
  show wpAny _ _ (getattributeRaised _ _ _ _ _ _ _) _ _ _
  unfold getattributeRaised
  repeat (any_goals (first | assumption | wp_step))

  exact h _ _ _ hx'.of
end Mine
namespace Mine
theorem entry_dul : entryFor table "dict.update.loop" = some Builtin.«dict.update.loop» := entryFor_of_tree (by kernel_rfl)
theorem plain_dul : plainId "dict.update.loop" = true := by decide +kernel
/-- what the pairs lay -/
def laid (prs : List (Int × Value)) : List (Int × Value) := prs.foldl (fun acc p => stored acc p.1 p.2) []
theorem laid_len (prs : List (Int × Value)) : ∀ acc : List (Int × Value), (prs.foldl (fun acc p => stored acc p.1 p.2) acc).length ≤ acc.length + prs.length := by
  induction prs with
  | nil => intro acc; simp
  | cons p r ih =>
    intro acc
    have h1 := ih (stored acc p.1 p.2)
    have h2 := stored_len acc p.1 p.2
    simp only [List.foldl_cons, List.length_cons]; omega
theorem laid_snoc {prs : List (Int × Value)} {i : Nat} {k : Int} {x : Value} (h : prs[i]? = some (k, x)) : laid (prs.take (i + 1)) = stored (laid (prs.take i)) k x := by
  unfold laid
  rw [List.take_add_one, h, List.foldl_append]; rfl
section
variable {prog : Program} {w : World} {A : Around} {R : Result → Shared → Prop} {I : Addr} {fp wr : List Addr} {n : Nat} {P : Nat → Value → Prop} {St : Nat → Heap → Prop}
theorem dict_loop (W : Walks prog w A.in1 I fp wr n P St) (d : Addr) (hdf : d ∉ fp) (prs : List (Int × Value)) (hpn : prs.length = n) (hsz : n ≤ 1000) (s₀ : Shared)
    (hv : ∀ i v, P i v → ∃ a k t x n', v = .ref a ∧ s₀.heap.get? a = some { cls := .type "tuple", data := .seq #[.int k t, x] n' } ∧ a ≠ d ∧ a ∉ wr ∧ prs[i]? = some (k, x))
    (hR : ∀ h tk, h.DictOf (PySem.intKind prog w) d (laid prs) → (∀ b o, b ≠ d → b ∉ wr → s₀.heap.get? b = some o → h.get? b = some o) → R (.ok (.ret .none)) { s₀ with heap := h, toks := tk }) :
    ∀ (k i : Nat) (h : Heap) (tk : Nat), n - i = k → i ≤ n → St i h → h.DictOf (PySem.intKind prog w) d (laid (prs.take i)) → (∀ b o, b ≠ d → b ∉ wr → s₀.heap.get? b = some o → h.get? b = some o) →
      codeAny (model prog w) A (.builtin "dict.update.loop" ⟨[.ref d, .ref I, rawInt (i : Nat), .none], []⟩) R { s₀ with heap := h, toks := tk } := by
  have hdw : d ∉ wr := fun h => hdf (W.sub _ h)
  intro k
  induction k with
  | zero =>
    intro i h tk hk hi hst hD hkeep
    obtain rfl : i = n := by omega
    refine codeAny_builtin entry_dul ?_
    rw [Around.under_plainId plain_dul _]
    show wpAny _ A.in1 (pyNext (.ref I) >>= _) _ _ _
    refine wpAny_bind (W.done _ _ _ hst fun h' tk' hk' => ?_)
    show wpAny _ A.in1 (Builtin.Dict.addKeywords d [] >>= _) _ _ _
    rw [← hpn, List.take_length] at hD
    exact wpAny_bind (wpAny_pure (wpAny_pure (hR h' tk' (let ⟨o, es, ep, ho, r⟩ := hD; ⟨o, es, ep, hk' d o hdw ho, r⟩) fun b o h1 h2 e => hk' b o h2 (hkeep b o h1 h2 e))))
  | succ k ih =>
    intro i h tk hk hi hst hD hkeep
    have hlt : i < n := by omega
    refine codeAny_builtin entry_dul ?_
    rw [Around.under_plainId plain_dul _]
    show wpAny _ A.in1 (pyNext (.ref I) >>= _) _ _ _
    refine wpAny_bind (W.item i _ _ _ hlt hst fun v h' tk' hP hst' hk' => ?_)
    obtain ⟨a, key, t, x, n', rfl, ha, had, haw, hpr⟩ := hv i v hP
    have ha' : h'.get? a = some _ := hk' a _ haw (hkeep a _ had haw ha)
    have hD' : h'.DictOf (PySem.intKind prog w) d (laid (prs.take i)) := let ⟨o, es, ep, ho, r⟩ := hD; ⟨o, es, ep, hk' d o hdw ho, r⟩
    show wpAny _ A.in1 (holding [Value.ref a] _ >>= _) _ _ _
    refine wpAny_bind (wpAny_holding ?_)
    refine wpAny_bind (wpAny_tryCatch ?_)
    unfold Builtin.Dict.pairItems
    refine wpAny_bind (wpAny_typeOf (T := "tuple") ⟨_, ha', rfl⟩ ?_)
    rw [if_pos (by decide)]
    refine wpAny_bind (wpAny_seqItems ha' rfl (wpAny_pure ?_))
    show wpAny _ A.in1 (holding [Value.int key t, x] (dictSet d (.int key t) x)) _ _ _
    have hle : (laid (prs.take i)).length ≤ n := by
      have := laid_len (prs.take i) []
      simp only [List.length_nil, Nat.zero_add, List.length_take] at this
      unfold laid
      omega
    refine wpAny_holding (wpAny_dictSet_pairs (knd := PySem.intKind prog w) (intKind_is _ _ _ _) hD' (fun h₂ hD₂ hs₂ => ?_) (by rw [PySem.sizeLine_eq]; omega))
    rw [← laid_snoc hpr] at hD₂
    refine wpAny_pure ⟨plainId_quiet plain_dul _, ?_⟩
    have := ih (i + 1) h₂ (tk' + 1) (by omega) hlt (W.frame _ _ _ hst' fun b hb o e => hs₂.extBut b o (fun q => hdf (q ▸ hb)) e) hD₂ (fun b o h1 h2 e => hs₂.extBut b o h1 (hk' b o h2 (hkeep b o h1 h2 e)))
    exact this
end
end Mine

namespace Mine
/-- a pair of the ledger's -/
def PairAt (h : Heap) (v : Value) (k : Int) (x : Value) : Prop := ∃ a t n, v = .ref a ∧ h.get? a = some { cls := .type "tuple", data := .seq #[.int k t, x] n }
theorem miss_keys : typeLookup (.type "list") "keys" = pure none := am_miss_of_fast (by kernel_rfl)
section
variable {prog : Program} {w : World} {A : Around} {E : Value → Shared → Prop} {s : Shared}
theorem dict_pairs {l : Addr} {its : Array Value} {n : Nat} {prs : List (Int × Value)} {Q : Value → Shared → Prop} (hA : A.handled = none) (hl : s.heap.get? l = some { cls := .type "list", data := .seq its n })
    (hlen : prs.length = its.size) (hsz : prs.length ≤ 1000) (hp : ∀ (i : Nat) (v : Value), its[i]? = some v → ∃ k x, prs[i]? = some (k, x) ∧ PairAt s.heap v k x)
    (h : ∀ h' tk, h'.DictOf (PySem.intKind prog w) s.heap.objs.size (laid prs) → (∀ b o, s.heap.get? b = some o → h'.get? b = some o) → Q (.ref s.heap.objs.size) { s with heap := h', toks := tk }) :
    wpAny (model prog w) A (call (.type "dict") [.ref l]) Q E s := by
  refine callType_codes (Q₁ := fun obj s₁ => obj = .ref s.heap.objs.size ∧ s₁ = { s with heap := s.heap.push { cls := .type "dict", data := .dict #[] } }) PySem.F.kt_called_dict (PySem.F.kt_typeCall_dict_1 _) PySem.F.entry_dict_init (kt_code_dict_new _ ⟨rfl, rfl⟩) ?_
  rintro obj s₁ ⟨rfl, rfl⟩
  have hnew : (s.heap.push { cls := .type "dict", data := .dict #[] }).DictOf (PySem.intKind prog w) s.heap.objs.size [] := Heap.DictOf.new s.heap
  refine ⟨hnew.typeIs, PySem.F.args_dict_init_2 _ _, ?_⟩
  have hl' : (s.heap.push { cls := .type "dict", data := .dict #[] }).get? l = some { cls := .type "list", data := .seq its n } := Heap.get?_push_of_some _ hl
  unfold Builtin.«dict.__init__»
  refine wpAny_bind ?_
  unfold Builtin.Dict.selfAndRest
  refine wpAny_bind (wpAny_notOrdered_dict hnew.typeIs ?_)
  show wpAny _ _ (pure (s.heap.objs.size, [Value.ref l])) _ _ _
  refine wpAny_pure ?_
  show wpAny _ _ (Builtin.Dict.updateFrom "dict.__init__" s.heap.objs.size (.ref l) [] .none) _ _ _
  unfold Builtin.Dict.updateFrom
  refine wpAny_bind (wpAny_typeOf (T := "list") ⟨_, hl', rfl⟩ ?_)
  rw [if_pos (by decide)]
  refine wpAny_bind (getAttr_none_list (by exact hl') miss_keys (by decide) hA (fun h' tk e he => ?_))
  rw [if_pos (show (none : Option Value).isNone = true from rfl)]
  refine wpAny_bind (wpAny_rule ?_)
  have hl2 : h'.get? l = some { cls := .type "list", data := .seq its n } := he.keeps _ _ hl'
  have hd2 : h'.DictOf (PySem.intKind prog w) s.heap.objs.size [] := let ⟨o, es, ep, ho, r⟩ := hnew; ⟨o, es, ep, he.keeps _ _ ho, r⟩
  have hlt : l < h'.objs.size := Heap.lt_size hl2
  have hdl : s.heap.objs.size < h'.objs.size := let ⟨o, es, ep, ho, r⟩ := hd2; Heap.lt_size ho
  have hsl : s.heap.objs.size ≠ l := fun q => by
    have := Heap.lt_size hl; rw [← q] at this; exact Nat.lt_irrefl _ this
  have hold : ∀ b o, s.heap.get? b = some o → h'.get? b = some o := fun b o e => he.keeps _ _ (Heap.get?_push_of_some _ e)
  refine wpAny_bind (wpAny_pyIter_list ⟨_, hl2, rfl, n, rfl⟩ ?_)
  have W := Walks.list (prog := prog) (w := w) (A := A.in1.in1) hA h'.objs.size l (Nat.ne_of_lt hlt) its
  refine wpAny_pure ⟨plainId_quiet plain_dul _, ?_⟩
  refine dict_loop (A := A.in1) W s.heap.objs.size (fun hm => ?_) prs hlen (by omega) { s with heap := h', toks := tk } (fun i v hi => ?_) (fun h₂ tk₂ hD hk => ?_) its.size 0 _ _ (by omega) (Nat.zero_le _)
    ⟨⟨_, Heap.get?_push_size _ rfl, rfl, rfl⟩, ⟨_, Heap.get?_push_of_some _ hl2, rfl, n, rfl⟩⟩ (let ⟨o, es, ep, ho, r⟩ := hd2; ⟨o, es, ep, Heap.get?_push_of_some _ ho, r⟩) (fun b o _ _ e => Heap.get?_push_of_some _ e)
  · rcases List.mem_cons.mp hm with e | hm
    · exact absurd hdl (by rw [e]; exact Nat.lt_irrefl _)
    · exact hsl (List.mem_singleton.mp hm)
  · obtain ⟨k, x, e1, a, t, n', rfl, ha⟩ := hp i v hi
    refine ⟨a, k, t, x, n', rfl, hold _ _ ha, Nat.ne_of_lt (Heap.lt_size ha), fun hm => ?_, e1⟩
    have h1 := Heap.lt_size (hold _ _ ha)
    rw [List.mem_singleton.mp hm] at h1
    exact Nat.lt_irrefl _ h1
  · refine ⟨rfl, h h₂ tk₂ hD fun b o e => hk b o (Nat.ne_of_lt (Heap.lt_size e)) (fun hm => ?_) (hold b o e)⟩
    have h1 := Heap.lt_size (hold _ _ e)
    rw [List.mem_singleton.mp hm] at h1
    exact Nat.lt_irrefl _ h1
end
end Mine
namespace Mine
def PairIn (news : List (Addr × Obj)) (v : Value) (k : Int) (x : Value) : Prop := ∃ a t n, v = .ref a ∧ (a, ({ cls := .type "tuple", data := .seq #[.int k t, x] n } : Obj)) ∈ news
theorem PairIn.mono {news news' : List (Addr × Obj)} {v x : Value} {k : Int} (h : PairIn news v k x) (hs : ∀ p ∈ news, p ∈ news') : PairIn news' v k x := by
  obtain ⟨a, t, n, e, hm⟩ := h; exact ⟨a, t, n, e, hs _ hm⟩
def TupAt (news : List (Addr × Obj)) (v : Value) (e : Int × Int) : Prop :=
  ∃ a t1 t2 t3 n, v = .ref a ∧ (a, ({ cls := .type "tuple", data := .seq #[.str "free" t1, .int e.1 t2, .int e.2 t3] n } : Obj)) ∈ news
theorem TupAt.mono {news news' : List (Addr × Obj)} {v : Value} {e : Int × Int} (h : TupAt news v e) (hs : ∀ p ∈ news, p ∈ news') : TupAt news' v e := by
  obtain ⟨a, t1, t2, t3, n, e, hm⟩ := h; exact ⟨a, t1, t2, t3, n, e, hs _ hm⟩
/-- what a dict of told entries says -/
def TupsAre (news : List (Addr × Obj)) (kvs : List (Int × Value)) (f : Int → Option (Int × Int)) : Prop :=
  ∀ k, match f k with
    | none => valueAt kvs k = none
    | some e => ∃ v, valueAt kvs k = some v ∧ TupAt news v e
theorem stored_new {kvs : List (Int × Value)} {k : Int} {v : Value} (h : k ∉ kvs.map (·.1)) : stored kvs k v = kvs ++ [(k, v)] := by
  unfold stored
  rw [if_neg]
  intro q
  rw [List.any_eq_true] at q
  obtain ⟨p, hp, e⟩ := q
  exact h (List.mem_map.mpr ⟨p, hp, by simpa using e⟩)
theorem laid_nodup : ∀ (prs acc : List (Int × Value)), ((acc ++ prs).map (·.1)).Nodup → prs.foldl (fun a p => stored a p.1 p.2) acc = acc ++ prs
  | [], acc, _ => by simp
  | p :: r, acc, h => by
    have hn : p.1 ∉ acc.map (·.1) := by
      rw [List.map_append, List.map_cons] at h
      have := (List.nodup_append.mp h).2.2
      intro q
      exact this p.1 q p.1 (.head _) rfl
    rw [List.foldl_cons, stored_new hn, laid_nodup r (acc ++ [(p.1, p.2)]) (by simpa using h)]
    simp
theorem laid_self {prs : List (Int × Value)} (h : (prs.map (·.1)).Nodup) : laid prs = prs := by
  have := laid_nodup prs [] (by simpa using h)
  simpa [laid] using this
section
variable {prog : Program} {w : World} {A : Around} {E : Value → Shared → Prop} {s : Shared} {h₀ : Heap} {L l : Addr} {m : Str → Option Value} {news : List (Addr × Obj)} {ys : List Value} {n : Nat} {Q : Value → Shared → Prop}
theorem dict_pairs_news {prs : List (Int × Value)} (hA : A.handled = none) (hbig : h₀.NoLimit) (F : Fr h₀ L s.heap m) (N : News h₀ L s.heap news) (hm : (l, lstO ys n) ∈ news)
    (hlen : prs.length = ys.length) (hsz : prs.length ≤ 1000) (hp : ∀ (i : Nat) (v : Value), ys[i]? = some v → ∃ k x, prs[i]? = some (k, x) ∧ PairIn news v k x)
    (h : ∀ d h' tk o, Fr h₀ L h' m → News h₀ L h' ((d, o) :: news) → (∀ q ∈ news, q.1 < d) → (d == sysModules) = false → o.IsDictOf (PySem.intKind prog w) (laid prs) → Q (.ref d) { s with heap := h', toks := tk }) :
    wpAny (model prog w) A (call (.type "dict") [.ref l]) Q E s := by
  refine dict_pairs hA (N _ hm).1 (by simpa using hlen) hsz (fun i v hi => ?_) fun h' tk hD hk => ?_
  · obtain ⟨k, x, e, a, t, n', e', hm'⟩ := hp i v (by simpa using hi)
    exact ⟨k, x, e, a, t, n', e', (N _ hm').1⟩
  · obtain ⟨o, ho, hd⟩ := Heap.dictOf_iff.mp hD
    have hlt : ∀ q ∈ news, q.1 < s.heap.objs.size := fun q hq => Heap.lt_size (N q hq).1
    have F' : Fr h₀ L h' m := F.keeps hk
    refine h _ h' tk o F' (fun p hp => ?_) hlt (F.notModules (modules_low hbig)) hd
    rcases List.mem_cons.mp hp with rfl | hp
    · refine ⟨ho, Nat.ne_of_gt F.ns.lt, ?_⟩
      cases q : h₀.get? s.heap.objs.size with
      | none => rfl
      | some o' => exact absurd (Heap.lt_size (F.keep _ _ q)) (Nat.lt_irrefl _)
    · exact ⟨hk _ _ (N p hp).1, (N p hp).2⟩
end
end Mine
namespace Mine
theorem valueAt_mem {kvs : List (Int × Value)} {k : Int} (h : k ∈ kvs.map (·.1)) : ∃ v, valueAt kvs k = some v := by
  obtain ⟨p, hp, rfl⟩ := List.mem_map.mp h
  unfold valueAt
  cases e : kvs.find? (fun kv => decide (kv.1 = p.1)) with
  | none => rw [List.find?_eq_none] at e; have := e p hp; simp at this
  | some q => exact ⟨q.2, rfl⟩
theorem ents_at {P : Params} {news : List (Addr × Obj)} {kvs : List (Int × Value)} {f : Int → Option (Int × Int)} (hE : EntsAre P news kvs f) {k : Int} (h : k ∈ kvs.map (·.1)) : ∃ v e, valueAt kvs k = some v ∧ f k = some e ∧ EntryAt P news v e := by
  obtain ⟨v, hv⟩ := valueAt_mem h
  have := hE k
  cases e : f k with
  | none => rw [e] at this; rw [hv] at this; cases this
  | some x =>
    rw [e] at this
    obtain ⟨v', hv', hx⟩ := this
    exact ⟨v', x, hv', rfl, hx⟩
theorem getElem?_mem_map {kvs : List (Int × Value)} {i : Nat} {k : Int} (h : (kvs.map (·.1))[i]? = some k) : k ∈ kvs.map (·.1) := List.mem_of_getElem? h
end Mine
namespace Mine
theorem list_choose {α β : Type} : ∀ (ys : List α) (R : Nat → α → β → Prop), (∀ (i : Nat) (v : α), ys[i]? = some v → ∃ b, R i v b) → ∃ bs : List β, bs.length = ys.length ∧ ∀ (i : Nat) (v : α), ys[i]? = some v → ∃ b, bs[i]? = some b ∧ R i v b
  | [], _, _ => ⟨[], rfl, fun i v h => by simp at h⟩
  | y :: r, R, h => by
    obtain ⟨b, hb⟩ := h 0 y rfl
    obtain ⟨bs, hl, hbs⟩ := list_choose r (fun i v b => R (i + 1) v b) fun i v hv => h (i + 1) v (by simpa using hv)
    refine ⟨b :: bs, by simp [hl], fun i v hv => ?_⟩
    cases i with
    | zero => simp at hv; subst hv; exact ⟨b, rfl, hb⟩
    | succ i => simp at hv; simpa using hbs i v hv
theorem valueAt_none {kvs : List (Int × Value)} {k : Int} (h : k ∉ kvs.map (·.1)) : valueAt kvs k = none := by
  unfold valueAt
  cases e : kvs.find? (fun kv => decide (kv.1 = k)) with
  | none => rfl
  | some q =>
    have h1 := List.find?_some e
    have h2 := List.mem_of_find?_eq_some e
    exact absurd (List.mem_map.mpr ⟨q, h2, by simpa using h1⟩) h
theorem not_mem_of_valueAt {kvs : List (Int × Value)} {k : Int} (h : valueAt kvs k = none) : k ∉ kvs.map (·.1) := fun hm => by
  obtain ⟨v, hv⟩ := valueAt_mem hm
  rw [hv] at h; cases h
theorem mem_of_valueAt {kvs : List (Int × Value)} {k : Int} {v : Value} (h : valueAt kvs k = some v) : (k, v) ∈ kvs := by
  unfold valueAt at h
  cases e : kvs.find? (fun kv => decide (kv.1 = k)) with
  | none => rw [e] at h; cases h
  | some q =>
    rw [e] at h
    have h1 : q.1 = k := by simpa using List.find?_some e
    have h2 := List.mem_of_find?_eq_some e
    have h3 : q.2 = v := by simpa using h
    rw [← h1, ← h3]; exact h2
theorem tups_of {P : Params} {rest tl : List (Addr × Obj)} {kvs prs : List (Int × Value)} {f : Int → Option (Int × Int)} (hE : EntsAre P rest kvs f) (hk : prs.map (·.1) = kvs.map (·.1)) (hp : ∀ p ∈ prs, ∃ e, f p.1 = some e ∧ TupAt tl p.2 e) : TupsAre tl prs f := by
  intro k
  have hx := hE k
  cases e : f k with
  | none =>
    rw [e] at hx
    have := not_mem_of_valueAt hx
    rw [← hk] at this
    exact valueAt_none this
  | some e' =>
    rw [e] at hx
    obtain ⟨v, hv, _⟩ := hx
    have hm : k ∈ prs.map (·.1) := by
      rw [hk]; exact List.mem_map.mpr ⟨_, mem_of_valueAt hv, rfl⟩
    obtain ⟨v', hv'⟩ := valueAt_mem hm
    obtain ⟨e2, h1, h2⟩ := hp _ (mem_of_valueAt hv')
    rw [e] at h1; cases h1
    exact ⟨v', hv', h2⟩
end Mine
namespace Mine
theorem ints_of : ∀ (vs : List Value) (ks : List Int), vs.length = ks.length → (∀ (j : Nat) (v : Value), vs[j]? = some v → ∃ k t, ks[j]? = some k ∧ v = .int k t) → IntsAre vs ks
  | [], [], _, _ => .nil
  | v :: r, k :: t, hl, h => by
    obtain ⟨k', u, e, rfl⟩ := h 0 v rfl
    simp at e; subst e
    exact .cons _ _ (ints_of r t (by simpa using hl) fun j v hv => by simpa using h (j + 1) v (by simpa using hv))
section
variable {prog : Program} {w : World} {A : Around} {E : Value → Shared → Prop} {s : Shared} {h₀ : Heap} {L d : Addr} {m : Str → Option Value} {news : List (Addr × Obj)} {o : Obj} {kvs : List (Int × Value)} {Q : Value → Shared → Prop}
theorem sorted_dict_news (hh : A.handled = none) (F : Fr h₀ L s.heap m) (N : News h₀ L s.heap news) (hm : (d, o) ∈ news) (hd : o.IsDictOf (PySem.intKind prog w) kvs) (lo : (d == sysModules) = false) (hsz : kvs.length < 64)
    (h : ∀ D vs' ns' c h' tk, Fr h₀ L h' m → News h₀ L h' ((D, lstO vs' c) :: news) → (∀ q ∈ news, q.1 < D) → IntsAre vs' ns' → ns'.Perm (kvs.map (·.1)) → ns'.Pairwise (· ≤ ·) → Q (.ref D) { s with heap := h', toks := tk }) :
    wpAny (model prog w) A (call (.builtin "sorted") [.ref d]) Q E s := by
  obtain ⟨ep, hat⟩ := (kda_dict N hm hd).dictAt
  refine kdu_sorted (kdl_dict (knd := PySem.intKind prog w) (kvs := kvs) (ep := ep) lo) hh F N hat (by rw [PySem.sizeLine_eq]; omega) fun B h' tk vs F' N' l1 hl hv => ?_
  have hI : IntsAre vs (kvs.map (·.1)) := ints_of vs _ (by simpa using hl) fun j v hj => by
    obtain ⟨k, x, h1, h2⟩ := hv j v hj
    obtain ⟨t, rfl⟩ := Value.isInt_shape h2
    exact ⟨k, t, by simp [h1], rfl⟩
  have z := N' (B, listOf vs.toArray 0) (.head _)
  have ho : h'.get? B = some (seqObj "list" vs.toArray 0) := z.1
  refine wpAny_call_entry PyProof.Rows.slot_list_sort ⟨_, z.1, rfl⟩ PyProof.Rows.entry_list_sort (list_sort_tree (n := 0) (vs := vs) ho hI (by omega) fun out ns' a1 a2 a3 => ⟨.none, rfl, ?_⟩) (PyProof.Rows.args_list_sort _)
  obtain ⟨c, hc⟩ := sortedHeap_at (vs := vs) (out := out) ho
  have old : ∀ b o, b ≠ B → h'.get? b = some o → (sortedHeap h' B vs out).get? b = some o := fun b o hb e => (sortedHeap_old hb (Heap.lt_size e)).trans e
  refine h B out.toList ns' c _ tk ⟨F'.ns.at' fun o e => old L o (Ne.symm z.2.1) e, fun b o e => old b o (fun q => ?_) (F'.keep b o e), F'.above⟩ (fun p hp => ?_) l1 a1 a2 a3
  · have := z.2.2
    rw [q] at e; rw [show h₀.get? B = none from this] at e; cases e
  · rcases List.mem_cons.mp hp with rfl | hp
    · exact ⟨by rw [show lstO out.toList c = seqObj "list" out c from by simp [lstO, W.listOf, seqObj]]; exact hc, z.2⟩
    · exact ⟨old _ _ (Nat.ne_of_lt (l1 p hp)) (N' p (.tail _ hp)).1, (N' p (.tail _ hp)).2⟩
end
end Mine
namespace Mine
def WrEnd (h₀ : Heap) (L : Addr) (s : Shared) (J : Nat → (Str → Option Value) → List (Addr × Obj) → Prop) (n : Nat) (s₃ : Shared) : Prop :=
  ∃ h' tk m₂ news₂ n', s₃ = { s with heap := h', toks := tk } ∧ Fr h₀ L h' m₂ ∧ News h₀ L h' news₂ ∧ n' < n ∧ J n' m₂ news₂
def WrPost (h₀ : Heap) (L : Addr) (s : Shared) (J : Nat → (Str → Option Value) → List (Addr × Obj) → Prop) (n : Nat) (Q : Flow → Shared → Prop) (f : Flow) (s₃ : Shared) : Prop :=
  match f with
  | .ret v => Q (.ret v) s₃
  | .brk => Q .next s₃
  | _ => WrEnd h₀ L s J n s₃
theorem WrEnd.intro {h₀ h' : Heap} {L : Addr} {s : Shared} {J : Nat → (Str → Option Value) → List (Addr × Obj) → Prop} {n n' tk : Nat} {m₂ : Str → Option Value} {news₂ : List (Addr × Obj)}
    (F : Fr h₀ L h' m₂) (N : News h₀ L h' news₂) (hn : n' < n) (hJ : J n' m₂ news₂) : WrEnd h₀ L s J n { s with heap := h', toks := tk } := ⟨h', tk, m₂, news₂, n', rfl, F, N, hn, hJ⟩
section
variable {prog : Program} {w : World} {A : Around} {E : Value → Shared → Prop} {Q : Flow → Shared → Prop} {s : Shared} {env : Env} {h₀ : Heap} {L : Addr}
theorem While_ret {test : PySem.Expr} {body : List Stmt} {pos : Pos} {m : Str → Option Value} {news : List (Addr × Obj)} (J : Nat → (Str → Option Value) → List (Addr × Obj) → Prop) {n₀ : Nat}
    (F : Fr h₀ L s.heap m) (N : News h₀ L s.heap news) (hJ : J n₀ m news)
    (turn : ∀ n m₁ news₁ h₁ tk₁, Fr h₀ L h₁ m₁ → News h₀ L h₁ news₁ → J n m₁ news₁ →
      wpAny (model prog w) A (PySem.isTrue test env (eval test env)) (fun b s₂ =>
        if b = true then wpAny (model prog w) A (execs body env) (WrPost h₀ L s J n Q) E s₂ else Q .next s₂) E { s with heap := h₁, toks := tk₁ })
    (hE : PassesOwn (model prog w) A env E) :
    wpAny (model prog w) A (exec (.While test body [] pos) env) Q E s := by
  refine wpAny_While (codeAny_whileLoop (fun n s' => ∃ h₁ tk₁ m₁ news₁, s' = { s with heap := h₁, toks := tk₁ } ∧ Fr h₀ L h₁ m₁ ∧ News h₀ L h₁ news₁ ∧ J n m₁ news₁) ?_ n₀ ⟨s.heap, s.toks, m, news, rfl, F, N, hJ⟩)
  rintro n s' ⟨h₁, tk₁, m₁, news₁, rfl, F₁, N₁, J₁⟩
  refine wpAny_mono (turn n m₁ news₁ h₁ tk₁ F₁ N₁ J₁) (fun b s₂ h₂ => ?_) hE
  cases b with
  | false =>
    simp only [Bool.false_eq_true, if_false] at h₂ ⊢
    exact wpAny_execs_nil h₂
  | true =>
    simp only [if_true] at h₂ ⊢
    refine wpAny_mono h₂ (fun f s₃ h₃ => ?_) hE
    have fin : WrEnd h₀ L s J n s₃ → ∃ m, m < n ∧ ∃ h₁ tk₁ m₁ news₁, s₃ = { s with heap := h₁, toks := tk₁ } ∧ Fr h₀ L h₁ m₁ ∧ News h₀ L h₁ news₁ ∧ J m m₁ news₁ := by
      rintro ⟨h', tk, m₂, news₂, n', rfl, F₂, N₂, hn, J₂⟩
      exact ⟨n', hn, h', tk, m₂, news₂, rfl, F₂, N₂, J₂⟩
    cases f with
    | next => exact fin h₃
    | cont => exact fin h₃
    | brk => exact h₃
    | ret v => exact h₃
end
section
variable {prog : Program} {w : World} {A : Around} {E : Value → Shared → Prop} {s : Shared} {h₀ : Heap} {L d : Addr} {m : Str → Option Value} {news news' : List (Addr × Obj)} {o : Obj} {kvs : List (Int × Value)} {k : Int} {t : Tok} {v : Value} {Q : Value → Shared → Prop}
theorem get1_hit (N : News h₀ L s.heap news) (hm : (d, o) ∈ news) (hd : o.IsDictOf (PySem.intKind prog w) kvs) (lo : (d == sysModules) = false) (hl : valueAt kvs k = some v)
    (h : Q v { s with toks := s.toks + 1 }) : wpAny (model prog w) A (call (.builtin "dict.get") [.ref d, .int k t]) Q E s :=
  get1_news N hm hd lo (by rw [hl]; exact h)
theorem in_news {b : Bool} (N : News h₀ L s.heap news) (hm : (d, o) ∈ news) (hd : o.IsDictOf (PySem.intKind prog w) kvs) (lo : (d == sysModules) = false) (hb : (valueAt kvs k).isSome = b)
    (h : Q (.bool b) { s with toks := s.toks + 1 }) : wpAny (model prog w) A (compareOp .In (.int k t) (.ref d)) Q E s :=
  kda_in N hm hd lo (intKind_is _ _ _ _) b hb h
theorem append_news {ys : List Value} {n : Nat} (F : Fr h₀ L s.heap m) (N : News h₀ L s.heap news) (U : Upd d (lstO ys n) (lstO (ys ++ [v]) (n + 1)) news news') (hz : ys.length ≤ 1000)
    (h : ∀ h', Fr h₀ L h' m → News h₀ L h' news' → Q .none { s with heap := h' }) : wpAny (model prog w) A (call (.builtin "list.append") [.ref d, v]) Q E s := by
  refine append_K (its := ys.toArray) (n := n) (x := v) F N (by rw [List.push_toArray]; exact U) h (by rw [PySem.sizeLine_eq, List.size_toArray]; omega)
end
/-- the positives of ns, rising -/
def Rising (ns ps : List Int) : Prop := ps.Pairwise (· < ·) ∧ ∀ x, x ∈ ps ↔ (0 < x ∧ x ∈ ns)
theorem nxt_rising {ns ps : List Int} (h : Rising ns ps) (i : Nat) (hi : i ≤ ps.length) : nxt ns ((0 :: ps).getD i 0) = ps.getD i 0 := by
  obtain ⟨hs, hm⟩ := h
  refine (nxt_is ns _).unique (ms := ns) ?_ (fun _ _ => Iff.rfl)
  have hget : ∀ j, j < ps.length → ps.getD j 0 ∈ ps := fun j hj => by
    rw [List.getD_eq_getElem?_getD, List.getElem?_eq_getElem hj]; exact List.getElem_mem hj
  have hmono : ∀ a b, a < b → b < ps.length → ps.getD a 0 < ps.getD b 0 := fun a b hab hb => by
    rw [List.getD_eq_getElem?_getD, List.getD_eq_getElem?_getD, List.getElem?_eq_getElem hb, List.getElem?_eq_getElem (Nat.lt_trans hab hb)]
    exact List.pairwise_iff_getElem.mp hs a b (Nat.lt_trans hab hb) hb hab
  have hidx : ∀ x ∈ ps, ∃ j, j < ps.length ∧ ps.getD j 0 = x := fun x hx => by
    obtain ⟨j, hj, e⟩ := List.getElem_of_mem hx
    exact ⟨j, hj, by rw [List.getD_eq_getElem?_getD, List.getElem?_eq_getElem hj]; exact e⟩
  have hpos : ∀ j, j < ps.length → 0 < ps.getD j 0 := fun j hj => ((hm _).mp (hget j hj)).1
  -- the place before
  have hcase : (i = 0 ∧ (0 :: ps).getD i 0 = 0) ∨ ∃ j, i = j + 1 ∧ (0 :: ps).getD i 0 = ps.getD j 0 := by
    cases i with
    | zero => exact .inl ⟨rfl, rfl⟩
    | succ j => exact .inr ⟨j, rfl, by simp [List.getD]⟩
  rcases Nat.lt_or_ge i ps.length with q | q
  · right
    refine ⟨((hm _).mp (hget i q)).2, hpos i q, ?_, fun x hx h0 hk => ?_⟩
    · rcases hcase with ⟨_, e⟩ | ⟨j, rfl, e⟩
      · rw [e]; exact hpos i q
      · rw [e]; exact hmono j (j + 1) (Nat.lt_succ_self _) q
    · obtain ⟨a, ha, rfl⟩ := hidx x ((hm x).mpr ⟨h0, hx⟩)
      rcases Nat.lt_trichotomy a i with r | r | r
      · exfalso
        rcases hcase with ⟨rfl, e⟩ | ⟨j, rfl, e⟩
        · exact Nat.not_lt_zero _ r
        · rw [e] at hk
          rcases Nat.lt_or_ge a j with r' | r'
          · have := hmono a j r' (by omega); omega
          · have : a = j := by omega
            subst this; omega
      · subst r; exact Int.le_refl _
      · exact Int.le_of_lt (hmono i a r ha)
  · left
    have e0 : ps.getD i 0 = 0 := by rw [List.getD_eq_getElem?_getD, List.getElem?_eq_none q]; rfl
    refine ⟨e0, fun x hx h0 => ?_⟩
    obtain ⟨a, ha, rfl⟩ := hidx x ((hm x).mpr ⟨h0, hx⟩)
    rcases hcase with ⟨rfl, e⟩ | ⟨j, rfl, e⟩
    · omega
    · rw [e]
      rcases Nat.lt_or_ge a j with r | r
      · exact Int.le_of_lt (hmono a j r (by omega))
      · have : a = j := by omega
        subst this; exact Int.le_refl _
end Mine
namespace Mine
theorem fill_F1 : (fun (_ : OpenLaw) (_ : Params → Frag) => True) PySem.Challenge.rw_og0121_01 Mine.hd.heap_39 := by
  k_fill
  trivial
local macro_rules | `(tactic| k_all) => `(tactic| assumption)
local macro_rules | `(tactic| k_mem) => `(tactic| assumption)
local macro_rules | `(tactic| is_list) => `(tactic| exact News.isList (by k_asm) (by k_mem))
local macro_rules | `(tactic| l_fact) => `(tactic| first | omega | ((try simp only [List.length_append, List.length_cons, List.length_nil, List.length_map] at *); omega))
local macro_rules | `(tactic| walk_at "call builtin:sorted") => `(tactic| (k_here; (with_reducible show wpAny _ _ (call (Value.builtin _) [Value.ref _]) _ _ _); k_dflt (refine' sorted_news ?F ?N ?m ?i ?z ?_; (case F => k_asm); (case N => k_asm); (case m => k_mem); (case i => assumption); (case z => l_fact); k_whole); intro D' vs' ns' c' h' F' N' l1 i' p' o'; (try k_lt l1); (have pl' := p'.length_eq); (try k_sweep)))
local macro_rules | `(tactic| walk_at "binaryOp Add ref ref") => `(tactic| (k_here; (try k_made); k_dflt (refine' add_news ?F ?N ?a ?b ?i ?j ?z ?_; (case F => k_asm); (case N => k_asm); (case a => k_mem); (case b => k_mem); (case i => l_ints); (case j => l_ints); (case z => l_fact); k_whole); intro D' ws' h' F' N' l1 hI'; (try k_lt l1); (try k_sweep)))
local macro_rules | `(tactic| walk_at "call builtin:len") => `(tactic| (k_here; (with_reducible show wpAny _ _ (call (Value.builtin _) [Value.ref _]) _ _ _); k_dflt (refine' len_news ?N ?m ?i ?z ?_; (case N => k_asm); (case m => k_mem); (case i => l_ints); (case z => l_fact); k_whole)))
local macro_rules | `(tactic| walk_at "subscriptTail") => `(tactic| (k_here; (with_reducible show wpAny _ _ (subscriptTail _ _ (Value.ref _) (Value.int _ _)) _ _ _); k_dflt (refine' item_news ?N ?m ?i ?a ?b ?z ?_ ?s; (case N => k_asm); (case m => k_mem); (case i => l_ints); (case a => l_fact); (case b => l_fact); (case z => l_fact); (case s => with_unfolding_all rfl); k_whole); intro t'))
local macro_rules | `(tactic| walk_at "compareOp NotIn int ref") => `(tactic| (k_here; k_dflt (refine' notin_news ?N ?m ?i ?_; (case N => k_asm); (case m => k_mem); (case i => l_ints); k_whole)))
local macro_rules | `(tactic| walk_at "call builtin:dict.get") => `(tactic| (k_here; k_dflt (first
  | (refine' get_gen ?N ?m ?d ?g ?o ?_; (case N => k_asm); (case m => k_mem); (case d => assumption); (case g => assumption); (case o => assumption); k_whole; intro t')
  | (refine' get_news ?N ?m ?d ?o ?_; (case N => k_asm); (case m => k_mem); (case d => assumption); (case o => assumption); k_whole)
  | (refine' get1_news ?N ?m ?d ?o ?_; (case N => k_asm); (case m => k_mem); (case d => assumption); (case o => assumption); k_whole))))
local macro_rules | `(tactic| walk_at "getMethod ref") => `(tactic| (k_here; k_dflt (refine' getMethod_news ?N ?m ?d ?_; (case N => k_asm); (case m => k_mem); (case d => assumption); k_whole)))
local macro_rules | `(tactic| walk_at "subscriptTail") => `(tactic| (k_here; (with_reducible show wpAny _ _ (subscriptTail _ _ (Value.ref _) (Value.int _ _)) _ _ _); k_dflt (refine' item_dict_news ?N ?m ?d ?l ?_ ?s; (case N => k_asm); (case m => k_mem); (case d => assumption); (case l => assumption); (case s => with_unfolding_all rfl); k_whole)))
local macro_rules | `(tactic| walk_at "setItem ref int") => `(tactic| (k_here; k_dflt (refine' set_news ?F ?N ?U ?d ?z ?_; (case F => k_asm); (case N => k_asm); (case U => k_updF); (case d => assumption); (case z => l_fact); k_whole); intro h' o' F' N' hd'; (try dsimp only at N'); (try k_sweep)))
local macro_rules | `(tactic| lcg_sub) => `(tactic| (intro p9 hp9; k_mem))
local macro_rules | `(tactic| walk_at "call builtin:sorted") => `(tactic| (k_here; (with_reducible show wpAny _ _ (call (Value.builtin _) [Value.ref _]) _ _ _); k_dflt (refine' sorted_dict_news ?h ?F ?N ?m ?d ?o ?z ?_; (case h => rfl); (case F => k_asm); (case N => k_asm); (case m => k_mem); (case d => assumption); (case o => assumption); (case z => l_fact); k_whole); intro D' vs' ns' c' h' tk' F' N' l1 i' p' o'; (try k_lt l1); (have pl' := p'.length_eq); (try k_sweep)))
local macro_rules | `(tactic| walk_at "call builtin:dict.get") => `(tactic| (k_here; k_dflt (refine' get1_hit ?N ?m ?d ?o ?l ?_; (case N => k_asm); (case m => k_mem); (case d => assumption); (case o => assumption); (case l => assumption); k_whole)))
local macro_rules | `(tactic| walk_at "compareOp In int ref") => `(tactic| (k_here; k_dflt (refine' in_news ?N ?m ?d ?o ?b ?_; (case N => k_asm); (case m => k_mem); (case d => assumption); (case o => assumption); (case b => assumption); k_whole)))
local macro_rules | `(tactic| walk_at "call builtin:list.append") => `(tactic| (k_here; k_dflt (refine' append_news ?F ?N ?U ?z ?_; (case F => k_asm); (case N => k_asm); (case U => k_upd); (case z => l_fact); k_whole); intro h' F' N'; (try dsimp only at N'); (try k_sweep)))

def ChainPost (prog : Program) (w : World) (ns : List Int) (gen : Int → Int) (rest : List (Addr × Obj)) (r : Value) (news' : List (Addr × Obj)) : Prop :=
  ∃ d o tl kvs, r = .ref d ∧ (d == sysModules) = false ∧ news' = (d, o) :: (tl ++ rest) ∧ o.IsDictOf (PySem.intKind prog w) kvs ∧ kvs.length ≤ 13 ∧ (∀ q ∈ rest, q.1 < d) ∧ (∀ p ∈ tl, d < p.1) ∧ EntsAre w.params tl kvs (chainS ns gen)
section
abbrev chM (d D g l : Addr) : Str → Option Value := fun y => if y = Str.ofString "found" then some (Value.ref d) else if y = Str.ofString "line" then some (Value.ref D) else if y = Str.ofString "generations" then some (Value.ref g) else if y = Str.ofString "numbers" then some (Value.ref l) else none
local macro_rules | `(tactic| walk_at "pyIter ref") => `(tactic| (k_here; (with_reducible show wpAny _ _ _ (fun it s₂ => LoopAtV _ _ _ _ _ _ _ _ _ it s₂) _ _); refine stop ?_))
theorem chain_ok (w : World) (l g : Addr) (go : Obj) (vs : List Value) (ns : List Int) (n : Nat) (kvs : List (Int × Value)) (gen : Int → Int) (rest : List (Addr × Obj))
   (hi : IntsAre vs ns) (hlen : ns.length ≤ 12) (hl : (l, lstO vs n) ∈ rest) (hg : (g, go) ∈ rest) (hgo : go.IsDictOf (PySem.intKind PySem.Challenge.rw_og0121_01.row.prog w) kvs) (hgen : GenIs kvs gen) (hgs : (g == sysModules) = false) :
   CallOK w 87 [.ref l, .ref g] rest (ChainPost PySem.Challenge.rw_og0121_01.row.prog w ns gen rest) := by
  w_top off
  unfold CallOK
  intro mean mg mb cn cs aa ccd cl base h₀ L m s Q E B F X N T hkf ret
  refine wpAny_call ?_
  k_dflt ktr_enter
  rename Fr _ _ _ (fun _ => List.lookup _ _) => F1
  replace F1 := fr_congr F1 (lookup2 (Str.ofString "generations") (Str.ofString "numbers") (.ref g) (.ref l))
  k_steps
  k_made
  rename IntsAre _ (List.map _ (List.filter _ _)) => iF
  rename List.Perm _ ns => pF
  rename List.Pairwise _ _ => oF
  rename List Int => ss
  have hF1 := List.length_filter_le (fun a : Int => decide (0 < a)) ss
  simp only [List.map_id'] at iF
  k_steps
  rename IsRange _ _ _ _ _ _ _ _ => hR
  rename Obj.IsDictOf (PySem.intKind _ _) _ [] => hd0
  rename IntsAre _ ([0] ++ _) => hI
  have hEq := chF_eq gen pF oF
  generalize hline : [0] ++ List.filter (fun a => decide (0 < a)) ss = line at hI
  have hlen2 : line.length ≤ 13 := by rw [← hline]; simp; omega
  rename News _ _ _ _ => N2
  rename Fr _ _ _ _ => F2
  rename_i l' h7 l7 D1 vs1 c1 h6 i1 l6 pl1 D2 ys1 h5 tk0 a0 a00 a000 nX Dl ws h4 l4 h3 d h2 o lo hs fs fi l5 hh1 F' N' h1 tk1 t1 u1 v1 a1
  have e0 : (0 :: List.filter (fun a => decide (0 < a)) ss) = line := hline
  rw [e0] at hR hEq
  have hrd : ∀ p ∈ rest, p.1 < d := fun p hp => Nat.lt_trans (l7 p hp) l5.2.2.2.1
  refine Stop.mk ?_
  refine range_grow (n := line.length) (chJ _ w gen line d Dl (lstO ws 0) rest (chM d Dl g l)) rfl hR ?_ ?_ F2 (news_sub N2 (news' := (d, o) :: (Dl, lstO ws 0) :: rest) (by lcg_sub)) ⟨⟨none, none, ?_⟩, o, [], [], rfl, hd0, Nat.le_refl _, ?_, ?_, ?_⟩ ?_ ?_
  · exact small_one (by omega) (by omega) (by omega) (by omega)
  · rw [rangeSize_nat]; omega
  · funext z
    by_cases h1 : z = Str.ofString "later"
    · subst h1; rfl
    · by_cases h2 : z = Str.ofString "at"
      · subst h2; rfl
      · rw [if_neg h1, if_neg h2]
  · intro p hp
    exact Nat.ne_of_lt (hrd p hp)
  · intro p hp; cases hp
  · intro k; rfl
  · rintro i t m₁ nx h tk I oI hi9 hI9 ⟨⟨u, u', rfl⟩, o9, tl, kv9, rfl, hd9, hk9, hne9, hlt9, hE9⟩ F9 N9
    clear N2 F2 N' F'
    have hg2 : (g, go) ∈ tl ++ rest := List.mem_append_right _ hg
    have hId : @Ne Nat d I := hI9 _ (.head _)
    k_steps
    all_goals (
      rename Fr _ _ _ (fun y => if y = Str.ofString "later" then _ else _) => FE
      rename News _ _ _ ((_, instObj _ _) :: _) => NE
      rename Obj.IsDictOf _ _ (stored _ _ _) => dE
      refine chEnd FE NE dE hk9 hne9 hlt9 hE9 hI9 ?_ ?_ ?_ ?_ ?_ ?_)
    all_goals first
      | (refine ltN ?_; omega)
      | (rw [if_neg (by omega), show ((0:Int) + (i:Int)).toNat = i by omega])
      | (rw [show ((0:Int) + (i:Int)).toNat = i by omega])
      | (rw [show ((0:Int) + (i:Int) + 1).toNat = i + 1 by omega])
      | (rw [if_pos (by omega)])
      | (rw [List.getD_eq_getElem?_getD, List.getElem?_eq_none (by omega)]; rfl)
  · rintro m₁ nx h tk ⟨⟨u, u', rfl⟩, o9, tl, kv9, rfl, hd9, hk9, hne9, hlt9, hE9⟩ F9 N9
    clear N2 F2 N' F'
    dsimp only
    k_steps
    rename Fr h₀ L _ m => FE
    rename News h₀ L _ _ => NE
    exact ret _ _ _ _ FE (news_sub NE (news' := (d, o9) :: (tl ++ rest)) (by lcg_sub)) ⟨d, o9, tl, kv9, rfl, lo, rfl, hd9, by omega, hrd, hlt9, by rw [← hEq]; exact hE9⟩
end

end Mine
namespace Mine
theorem fill_T1 : (fun (_ : OpenLaw) (_ : Params → Frag) => True) PySem.Challenge.rw_og0121_01 Mine.hd.heap_39 := by
  k_fill
  trivial
local macro_rules | `(tactic| walk_at "no such step 0") => `(tactic| fail "no such step")
local macro_rules | `(tactic| k_all) => `(tactic| assumption)
local macro_rules | `(tactic| k_mem) => `(tactic| assumption)
local macro_rules | `(tactic| is_list) => `(tactic| exact News.isList (by k_asm) (by k_mem))
local macro_rules | `(tactic| l_fact) => `(tactic| first | omega | ((try simp only [List.length_append, List.length_cons, List.length_nil, List.length_map] at *); omega))
local macro_rules | `(tactic| walk_at "call builtin:sorted") => `(tactic| (k_here; (with_reducible show wpAny _ _ (call (Value.builtin _) [Value.ref _]) _ _ _); k_dflt (refine' sorted_news ?F ?N ?m ?i ?z ?_; (case F => k_asm); (case N => k_asm); (case m => k_mem); (case i => assumption); (case z => l_fact); k_whole); intro D' vs' ns' c' h' F' N' l1 i' p' o'; (try k_lt l1); (have pl' := p'.length_eq); (try k_sweep)))
local macro_rules | `(tactic| walk_at "binaryOp Add ref ref") => `(tactic| (k_here; (try k_made); k_dflt (refine' add_news ?F ?N ?a ?b ?i ?j ?z ?_; (case F => k_asm); (case N => k_asm); (case a => k_mem); (case b => k_mem); (case i => l_ints); (case j => l_ints); (case z => l_fact); k_whole); intro D' ws' h' F' N' l1 hI'; (try k_lt l1); (try k_sweep)))
local macro_rules | `(tactic| walk_at "call builtin:len") => `(tactic| (k_here; (with_reducible show wpAny _ _ (call (Value.builtin _) [Value.ref _]) _ _ _); k_dflt (refine' len_news ?N ?m ?i ?z ?_; (case N => k_asm); (case m => k_mem); (case i => l_ints); (case z => l_fact); k_whole)))
local macro_rules | `(tactic| walk_at "subscriptTail") => `(tactic| (k_here; (with_reducible show wpAny _ _ (subscriptTail _ _ (Value.ref _) (Value.int _ _)) _ _ _); k_dflt (refine' item_news ?N ?m ?i ?a ?b ?z ?_ ?s; (case N => k_asm); (case m => k_mem); (case i => l_ints); (case a => l_fact); (case b => l_fact); (case z => l_fact); (case s => with_unfolding_all rfl); k_whole); intro t'))
local macro_rules | `(tactic| walk_at "compareOp NotIn int ref") => `(tactic| (k_here; k_dflt (refine' notin_news ?N ?m ?i ?_; (case N => k_asm); (case m => k_mem); (case i => l_ints); k_whole)))
local macro_rules | `(tactic| walk_at "call builtin:dict.get") => `(tactic| (k_here; k_dflt (first
  | (refine' get_gen ?N ?m ?d ?g ?o ?_; (case N => k_asm); (case m => k_mem); (case d => assumption); (case g => assumption); (case o => assumption); k_whole; intro t')
  | (refine' get_news ?N ?m ?d ?o ?_; (case N => k_asm); (case m => k_mem); (case d => assumption); (case o => assumption); k_whole)
  | (refine' get1_news ?N ?m ?d ?o ?_; (case N => k_asm); (case m => k_mem); (case d => assumption); (case o => assumption); k_whole))))
local macro_rules | `(tactic| walk_at "getMethod ref") => `(tactic| (k_here; k_dflt (refine' getMethod_news ?N ?m ?d ?_; (case N => k_asm); (case m => k_mem); (case d => assumption); k_whole)))
local macro_rules | `(tactic| walk_at "subscriptTail") => `(tactic| (k_here; (with_reducible show wpAny _ _ (subscriptTail _ _ (Value.ref _) (Value.int _ _)) _ _ _); k_dflt (refine' item_dict_news ?N ?m ?d ?l ?_ ?s; (case N => k_asm); (case m => k_mem); (case d => assumption); (case l => assumption); (case s => with_unfolding_all rfl); k_whole)))
local macro_rules | `(tactic| walk_at "setItem ref int") => `(tactic| (k_here; k_dflt (refine' set_news ?F ?N ?U ?d ?z ?_; (case F => k_asm); (case N => k_asm); (case U => k_updF); (case d => assumption); (case z => l_fact); k_whole); intro h' o' F' N' hd'; (try dsimp only at N'); (try k_sweep)))
local macro_rules | `(tactic| lcg_sub) => `(tactic| (intro p9 hp9; k_mem))
local macro_rules | `(tactic| walk_at "call builtin:sorted") => `(tactic| (k_here; (with_reducible show wpAny _ _ (call (Value.builtin _) [Value.ref _]) _ _ _); k_dflt (refine' sorted_dict_news ?h ?F ?N ?m ?d ?o ?z ?_; (case h => rfl); (case F => k_asm); (case N => k_asm); (case m => k_mem); (case d => assumption); (case o => assumption); (case z => l_fact); k_whole); intro D' vs' ns' c' h' tk' F' N' l1 i' p' o'; (try k_lt l1); (have pl' := p'.length_eq); (try k_sweep)))
local macro_rules | `(tactic| walk_at "call builtin:dict.get") => `(tactic| (k_here; k_dflt (refine' get1_hit ?N ?m ?d ?o ?l ?_; (case N => k_asm); (case m => k_mem); (case d => assumption); (case o => assumption); (case l => assumption); k_whole)))
local macro_rules | `(tactic| walk_at "compareOp In int ref") => `(tactic| (k_here; k_dflt (refine' in_news ?N ?m ?d ?o ?b ?_; (case N => k_asm); (case m => k_mem); (case d => assumption); (case o => assumption); (case b => assumption); k_whole)))
local macro_rules | `(tactic| walk_at "call builtin:list.append") => `(tactic| (k_here; k_dflt (refine' append_news ?F ?N ?U ?z ?_; (case F => k_asm); (case N => k_asm); (case U => k_upd); (case z => l_fact); k_whole); intro h' F' N'; (try dsimp only at N'); (try k_sweep)))

def ToldPost (prog : Program) (w : World) (f : Int → Option (Int × Int)) (rest : List (Addr × Obj)) (r : Value) (news' : List (Addr × Obj)) : Prop :=
  ∃ d o tl kvs, r = .ref d ∧ (d == sysModules) = false ∧ news' = (d, o) :: (tl ++ rest) ∧ o.IsDictOf (PySem.intKind prog w) kvs ∧ kvs.length ≤ 13 ∧ (∀ q ∈ rest, q.1 < d) ∧ (∀ p ∈ tl, p.1 < d) ∧ (∀ p ∈ tl, ∀ q ∈ rest, q.1 < p.1) ∧ TupsAre tl kvs f
section
local macro_rules | `(tactic| walk_at "eval ListComp") => `(tactic| (k_here; k_dflt (refine ListComp_UD (F₀ := by k_asm) (by with_unfolding_all rfl) (by decide) (by rfl) (by decide) (by rfl) ?_)))
theorem told_ok (w : World) (e : Addr) (eo : Obj) (kvs : List (Int × Value)) (f : Int → Option (Int × Int)) (rest : List (Addr × Obj))
   (he : (e, eo) ∈ rest) (hd : eo.IsDictOf (PySem.intKind PySem.Challenge.rw_og0121_01.row.prog w) kvs) (hlen : kvs.length ≤ 13) (hes : (e == sysModules) = false) (hE : EntsAre w.params rest kvs f) :
   CallOK w 123 [.ref e] rest (ToldPost PySem.Challenge.rw_og0121_01.row.prog w f rest) := by
  w_top off
  unfold CallOK
  intro mean mg mb cn cs aa ccd cl base h₀ L m s Q E B F X N T hkf ret
  refine wpAny_call ?_
  k_dflt (refine' code_defC ?k1 ?k2 ?k3 ?k4 ?k5 ?kA ?kF ?kK ?k6 ?k7 ?k8 ?k9 ?kB ?kD ?_ ?c2 ?c3 ?c4; (case kA => exact rfl); (case kF => exact rfl); (case kK => assumption); (case k1 => k_asm); (case k2 => k_asm); (case k3 => k_asm); (case k4 => k_asm); (case k5 => k_asm); (case k6 => k_is); (case k7 => k_is); (case k8 => k_room); (case k9 => exact BindsTo.of_eq rfl); (case kB => exact rfl); (case kD => decide +kernel); (case c2 => exact rfl); (case c3 => exact rfl); (case c4 => exact rfl); k_whole; intro g' L' h' tk' cells' FG' F' N' Y' B' X' T' l1; k_cells Y'; (try simp only [List.cons_append, List.nil_append] at N'); (try dsimp only); (try k_fold))
  replace F' := fr_congr F' (m' := fun _ => none) (by funext x; rfl)
  rename_i co dc

  replace dc : co.data = .cell (some (.ref e)) := dc
  k_steps
  have F9 := F'
  refine SrcD.intro rfl (by k_asm) (by k_asm) (.tail _ he) hd hes (by omega) ?_
  intro g
  refine compRest_inv (fun i ys news => ∃ tl, news = tl ++ ((L' + 1, co) :: rest) ∧ ys.length = i ∧ (∀ p ∈ tl, L' + 1 < p.1) ∧
    ∀ (j : Nat) (v : Value), ys[j]? = some v → ∃ k x e', (kvs.map (·.1))[j]? = some k ∧ PairIn tl v k x ∧ f k = some e' ∧ TupAt tl x e') ?_ ?_ kvs.length 0 [] _ (Nat.zero_add _) ⟨[], rfl, rfl, (fun p hp => nomatch hp), (fun j v hj => nomatch hj)⟩
  · rintro i ys _ v I oI C oC D m₂ h tk E' hi ⟨tl, rfl, hl, hlt, hys⟩ ⟨k, t, hk, rfl⟩ hoC hx F9 N9 off ne
    obtain ⟨v, e', hv, hf, x, dx, t1, t2, t3, t4, t5, t6, n, rfl, m1, m2⟩ := ents_at hE (getElem?_mem_map hk)
    have he2 : (e, eo) ∈ tl ++ ((L' + 1, co) :: rest) := List.mem_append_right _ (.tail _ he)
    have hc2 : (L' + 1, co) ∈ tl ++ ((L' + 1, co) :: rest) := List.mem_append_right _ (.head _)
    have m12 : (x, instObj 78 dx) ∈ tl ++ ((L' + 1, co) :: rest) := List.mem_append_right _ (.tail _ m1)
    have m22 := List.mem_append_right tl (List.Mem.tail (L' + 1, co) m2)
    clear F' N'
    k_steps
    change LCg.CompEnd _ _ _ _ _ _ _ _ _ _ _ _ _ _
    rename_i D2 h7 _ _ l2 _ _ _ D1 h8 FE NE lE
    have q1 : L' + 1 < D2 := tb_ltOf l2.2.2.2 (L' + 1, co) hc2
    refine LCg.CompEnd.intro FE NE (((D1, { cls := Value.type "tuple", data := Data.seq #[Value.int k t, Value.ref D2] }) :: (D2, { cls := Value.type "tuple", data := Data.seq #[Value.str (Str.ofString "free") t2, Value.int e'.fst t4, Value.int e'.snd t6] }) :: tl) ++ ((L' + 1, co) :: rest)) (by simp only [List.cons_append]; lcg_sub)
      ⟨⟨by k_ne, by k_ne, by k_ne⟩, ⟨by k_ne, by k_ne, by k_ne⟩, off⟩ (.tail _ (.tail _ he2)) ⟨_, rfl, ?_, ?_, ?_⟩
    · simp [hl]
    · intro p hp
      rcases List.mem_cons.mp hp with rfl | hp
      · exact Nat.lt_trans q1 lE.1
      · rcases List.mem_cons.mp hp with rfl | hp
        · exact q1
        · exact hlt p hp
    · intro j v hj
      rcases Nat.lt_trichotomy j ys.length with q | q | q
      · rw [List.getElem?_append_left q] at hj
        obtain ⟨k', x', e2, a1, a2, a3, a4⟩ := hys j v hj
        exact ⟨k', x', e2, a1, a2.mono fun p hp => .tail _ (.tail _ hp), a3, a4.mono fun p hp => .tail _ (.tail _ hp)⟩
      · subst q
        rw [List.getElem?_append_right (Nat.le_refl _), Nat.sub_self] at hj
        obtain rfl : Value.ref D1 = v := by simpa using hj
        exact ⟨k, .ref D2, e', by rw [hl]; exact hk, ⟨D1, t, _, rfl, .head _⟩, hf, ⟨D2, t2, t4, t6, _, rfl, .tail _ (.head _)⟩⟩
      · rw [List.getElem?_eq_none (by simp; omega)] at hj; cases hj
  · rintro ys _ ⟨tl, rfl, hl, hlt, hys⟩
    k_steps
    rename_i D1 h8 tk8 FE NE oE
    obtain ⟨prs, pl, hprs⟩ := list_choose ys (fun i v (b : Int × Value) => (kvs.map (·.1))[i]? = some b.1 ∧ PairIn tl v b.1 b.2 ∧ ∃ e', f b.1 = some e' ∧ TupAt tl b.2 e') (fun i v hv => by
      obtain ⟨k, x, e', a1, a2, a3, a4⟩ := hys i v hv
      exact ⟨(k, x), a1, a2, e', a3, a4⟩)
    have hkeys : prs.map (·.1) = kvs.map (·.1) := by
      apply List.ext_getElem?
      intro i
      rcases Nat.lt_or_ge i ys.length with q | q
      · obtain ⟨b, hb, hb1, _⟩ := hprs i ys[i] (by simp [q])
        rw [hb1]; simp [hb]
      · rw [List.getElem?_eq_none (by simp; omega), List.getElem?_eq_none (by simp; omega)]
    have hnd : (prs.map (·.1)).Nodup := by rw [hkeys]; obtain ⟨_, _, _, _, _, _, hn⟩ := hd; exact hn
    refine dict_pairs_news (prs := prs) rfl (Top.nolimit T') FE NE (.head _) pl (by omega) (fun i v hv => ?_) ?_
    · obtain ⟨b, hb, _, hb2, _⟩ := hprs i v hv
      exact ⟨b.1, b.2, hb, hb2.mono fun p hp => .tail _ (List.mem_append_left _ hp)⟩
    · intro d h9 tk9 o F9 N9 l9 lo9 hd9
      rw [laid_self hnd] at hd9
      clear FE NE
      k_steps
      rename Fr h₀ L _ m => FE
      rename News h₀ L _ _ => NE
      refine ret _ _ _ _ FE (news_sub NE (news' := (d, o) :: (tl ++ rest)) ?_) ⟨d, o, tl, prs, rfl, lo9, rfl, hd9, by omega, ?_, ?_, ?_, tups_of hE hkeys ?_⟩
      · intro p hp
        rcases List.mem_cons.mp hp with rfl | hp
        · exact .head _
        · refine .tail _ (.tail _ ?_)
          rcases List.mem_append.mp hp with hp | hp
          · exact List.mem_append_left _ hp
          · exact List.mem_append_right _ (.tail _ hp)
      · intro q hq; exact l9 q (.tail _ (List.mem_append_right _ (.tail _ hq)))
      · intro q hq; exact l9 q (.tail _ (List.mem_append_left _ hq))
      · intro p hp q hq
        exact Nat.lt_trans (l1 q hq) (Nat.lt_trans (Nat.lt_succ_self _) (hlt p hp))
      · intro p hp
        obtain ⟨i, hi, e⟩ := List.getElem_of_mem hp
        obtain ⟨b, hb, _, _, e', h1, h2⟩ := hprs i ys[i] (by simp)
        rw [List.getElem?_eq_getElem hi, e] at hb
        cases hb
        exact ⟨e', h1, h2⟩
end

end Mine
namespace Mine
theorem fill_N1 : (fun (_ : OpenLaw) (_ : Params → Frag) => True) PySem.Challenge.rw_og0121_01 Mine.hd.heap_39 := by
  k_fill
  trivial
local macro_rules | `(tactic| walk_at "no such step 0") => `(tactic| fail "no such step")
local macro_rules | `(tactic| k_all) => `(tactic| assumption)
local macro_rules | `(tactic| k_mem) => `(tactic| assumption)
local macro_rules | `(tactic| is_list) => `(tactic| exact News.isList (by k_asm) (by k_mem))
local macro_rules | `(tactic| l_fact) => `(tactic| first | omega | ((try simp only [List.length_append, List.length_cons, List.length_nil, List.length_map] at *); omega))
local macro_rules | `(tactic| walk_at "call builtin:sorted") => `(tactic| (k_here; (with_reducible show wpAny _ _ (call (Value.builtin _) [Value.ref _]) _ _ _); k_dflt (refine' sorted_news ?F ?N ?m ?i ?z ?_; (case F => k_asm); (case N => k_asm); (case m => k_mem); (case i => assumption); (case z => l_fact); k_whole); intro D' vs' ns' c' h' F' N' l1 i' p' o'; (try k_lt l1); (have pl' := p'.length_eq); (try k_sweep)))
local macro_rules | `(tactic| walk_at "binaryOp Add ref ref") => `(tactic| (k_here; (try k_made); k_dflt (refine' add_news ?F ?N ?a ?b ?i ?j ?z ?_; (case F => k_asm); (case N => k_asm); (case a => k_mem); (case b => k_mem); (case i => l_ints); (case j => l_ints); (case z => l_fact); k_whole); intro D' ws' h' F' N' l1 hI'; (try k_lt l1); (try k_sweep)))
local macro_rules | `(tactic| walk_at "call builtin:len") => `(tactic| (k_here; (with_reducible show wpAny _ _ (call (Value.builtin _) [Value.ref _]) _ _ _); k_dflt (refine' len_news ?N ?m ?i ?z ?_; (case N => k_asm); (case m => k_mem); (case i => l_ints); (case z => l_fact); k_whole)))
local macro_rules | `(tactic| walk_at "subscriptTail") => `(tactic| (k_here; (with_reducible show wpAny _ _ (subscriptTail _ _ (Value.ref _) (Value.int _ _)) _ _ _); k_dflt (refine' item_news ?N ?m ?i ?a ?b ?z ?_ ?s; (case N => k_asm); (case m => k_mem); (case i => l_ints); (case a => l_fact); (case b => l_fact); (case z => l_fact); (case s => with_unfolding_all rfl); k_whole); intro t'))
local macro_rules | `(tactic| walk_at "compareOp NotIn int ref") => `(tactic| (k_here; k_dflt (refine' notin_news ?N ?m ?i ?_; (case N => k_asm); (case m => k_mem); (case i => l_ints); k_whole)))
local macro_rules | `(tactic| walk_at "call builtin:dict.get") => `(tactic| (k_here; k_dflt (first
  | (refine' get_gen ?N ?m ?d ?g ?o ?_; (case N => k_asm); (case m => k_mem); (case d => assumption); (case g => assumption); (case o => assumption); k_whole; intro t')
  | (refine' get_news ?N ?m ?d ?o ?_; (case N => k_asm); (case m => k_mem); (case d => assumption); (case o => assumption); k_whole)
  | (refine' get1_news ?N ?m ?d ?o ?_; (case N => k_asm); (case m => k_mem); (case d => assumption); (case o => assumption); k_whole))))
local macro_rules | `(tactic| walk_at "getMethod ref") => `(tactic| (k_here; k_dflt (refine' getMethod_news ?N ?m ?d ?_; (case N => k_asm); (case m => k_mem); (case d => assumption); k_whole)))
local macro_rules | `(tactic| walk_at "subscriptTail") => `(tactic| (k_here; (with_reducible show wpAny _ _ (subscriptTail _ _ (Value.ref _) (Value.int _ _)) _ _ _); k_dflt (refine' item_dict_news ?N ?m ?d ?l ?_ ?s; (case N => k_asm); (case m => k_mem); (case d => assumption); (case l => assumption); (case s => with_unfolding_all rfl); k_whole)))
local macro_rules | `(tactic| walk_at "setItem ref int") => `(tactic| (k_here; k_dflt (refine' set_news ?F ?N ?U ?d ?z ?_; (case F => k_asm); (case N => k_asm); (case U => k_updF); (case d => assumption); (case z => l_fact); k_whole); intro h' o' F' N' hd'; (try dsimp only at N'); (try k_sweep)))
local macro_rules | `(tactic| lcg_sub) => `(tactic| (intro p9 hp9; k_mem))
local macro_rules | `(tactic| walk_at "call builtin:sorted") => `(tactic| (k_here; (with_reducible show wpAny _ _ (call (Value.builtin _) [Value.ref _]) _ _ _); k_dflt (refine' sorted_dict_news ?h ?F ?N ?m ?d ?o ?z ?_; (case h => rfl); (case F => k_asm); (case N => k_asm); (case m => k_mem); (case d => assumption); (case o => assumption); (case z => l_fact); k_whole); intro D' vs' ns' c' h' tk' F' N' l1 i' p' o'; (try k_lt l1); (have pl' := p'.length_eq); (try k_sweep)))
local macro_rules | `(tactic| walk_at "call builtin:dict.get") => `(tactic| (k_here; k_dflt (refine' get1_hit ?N ?m ?d ?o ?l ?_; (case N => k_asm); (case m => k_mem); (case d => assumption); (case o => assumption); (case l => assumption); k_whole)))
local macro_rules | `(tactic| walk_at "compareOp In int ref") => `(tactic| (k_here; k_dflt (refine' in_news ?N ?m ?d ?o ?b ?_; (case N => k_asm); (case m => k_mem); (case d => assumption); (case o => assumption); (case b => assumption); k_whole)))
local macro_rules | `(tactic| walk_at "call builtin:list.append") => `(tactic| (k_here; k_dflt (refine' append_news ?F ?N ?U ?z ?_; (case F => k_asm); (case N => k_asm); (case U => k_upd); (case z => l_fact); k_whole); intro h' F' N'; (try dsimp only at N'); (try k_sweep)))

def NumsPost (kvs : List (Int × Value)) (rest : List (Addr × Obj)) (r : Value) (news' : List (Addr × Obj)) : Prop :=
  ∃ (D : Addr) (vs : List Value) (c : Nat) (ks : List Int), r = .ref D ∧ news' = (D, lstO vs c) :: rest ∧ IntsAre vs (ks.filter fun x => decide (0 < x)) ∧ ks.Perm (kvs.map (·.1)) ∧ ks.Pairwise (· ≤ ·)
section
local macro_rules | `(tactic| walk_at "eval ListComp") => `(tactic| (k_here; k_dflt (refine LCt.ListComp_T (F₀ := by k_asm) (by with_unfolding_all rfl) (by decide) (by rfl) (by decide) (by rfl) ?_)))
local macro_rules | `(tactic| walk_at "CompSrcT") => `(tactic| (refine stop ?_))
theorem nums_ok (w : World) (e : Addr) (eo : Obj) (kvs : List (Int × Value)) (f : Int → Option (Int × Int)) (rest : List (Addr × Obj))
   (he : (e, eo) ∈ rest) (hd : eo.IsDictOf (PySem.intKind PySem.Challenge.rw_og0121_01.row.prog w) kvs) (hlen : kvs.length ≤ 13) (hes : (e == sysModules) = false) (hE : EntsAre w.params rest kvs f) :
   CallOK w 92 [.ref e] rest (NumsPost kvs rest) := by
  w_top off
  unfold CallOK
  intro mean mg mb cn cs aa ccd cl base h₀ L m s Q E B F X N T hkf ret
  refine wpAny_call ?_
  k_dflt (refine' code_defC ?k1 ?k2 ?k3 ?k4 ?k5 ?kA ?kF ?kK ?k6 ?k7 ?k8 ?k9 ?kB ?kD ?_ ?c2 ?c3 ?c4; (case kA => exact rfl); (case kF => exact rfl); (case kK => assumption); (case k1 => k_asm); (case k2 => k_asm); (case k3 => k_asm); (case k4 => k_asm); (case k5 => k_asm); (case k6 => k_is); (case k7 => k_is); (case k8 => k_room); (case k9 => exact BindsTo.of_eq rfl); (case kB => exact rfl); (case kD => decide +kernel); (case c2 => exact rfl); (case c3 => exact rfl); (case c4 => exact rfl); k_whole; intro g' L' h' tk' cells' FG' F' N' Y' B' X' T' l1; k_cells Y'; (try simp only [List.cons_append, List.nil_append] at N'); (try dsimp only); (try k_fold))
  replace F' := fr_congr F' (m' := fun _ => none) (by funext x; rfl)
  rename_i co dc
  replace dc : co.data = .cell (some (.ref e)) := dc
  k_steps
  rename_i D1 vs1 ks1 c1 h1 tk1 F1 N1 i1 p1 o1 l2 pl1
  rw [List.length_map] at pl1
  have hv1 := IntsAre.length i1
  refine Stop.mk ?_
  refine LCt.CompSrcT.ledger rfl (by k_asm) (by k_asm) (.head _) (by rw [PySem.sizeLine_eq]; simp; omega) ?_
  intro g
  refine compRestT_inv (fun i ys news => news = (D1, lstO vs1 c1) :: (L' + 1, co) :: rest ∧ IntsAre ys ((ks1.take i).filter fun x => decide (0 < x))) ?_ ?_ _ 0 [] _ (Nat.zero_add _) ⟨rfl, .nil⟩
  · rintro i ys _ v I oI C oC D m₂ h tk E' hi ⟨rfl, hys⟩ hv hoC hx F9 N9 off ne
    obtain ⟨k, t, hk, rfl⟩ := ints_at i1 (i := i) (by simpa using hv)
    have hkm : k ∈ kvs.map (·.1) := p1.mem_iff.mp (List.mem_of_getElem? hk)
    obtain ⟨v, e', hv, hf, x, dx, t1, t2, t3, t4, t5, t6, n, rfl, m1, m2⟩ := ents_at hE hkm
    have hs : ks1.take (i + 1) = ks1.take i ++ [k] := by rw [List.take_add_one, hk]; rfl
    clear F1 N1
    k_steps
    all_goals (refine LCg.CompEnd.intro F9 N9 ((D1, lstO vs1 c1) :: (L' + 1, co) :: rest) (by lcg_sub) off (.inr ⟨_, .head _, rfl, _, rfl⟩) ⟨rfl, ?_⟩; rw [hs, List.filter_append])
    · refine IntsAre.append hys ?_
      rw [List.filter_cons_of_pos (by simpa using (by assumption : (0 : Int) < k))]
      exact .cons _ _ .nil
    · rw [List.filter_cons_of_neg (by simpa using (by assumption : ¬ (0 : Int) < k)), List.filter_nil, List.append_nil]
      exact hys
  · rintro ys _ ⟨rfl, hys⟩
    rw [List.take_of_length_le (by simp; omega)] at hys
    k_steps
    rename Fr h₀ L _ m => FE
    rename News h₀ L _ _ => NE
    exact ret _ _ _ _ FE (news_sub NE (news' := (_, LCg.lst ys) :: rest) (by lcg_sub)) ⟨_, ys, _, ks1, rfl, rfl, hys, p1, o1⟩
end

end Mine
namespace Mine
theorem fill_C1 : (fun (_ : OpenLaw) (_ : Params → Frag) => True) PySem.Challenge.rw_og0121_01 Mine.hd.heap_39 := by
  k_fill
  trivial
local macro_rules | `(tactic| walk_at "no such step 0") => `(tactic| fail "no such step")
local macro_rules | `(tactic| walk_at "no such step 1") => `(tactic| fail "no such step")
local macro_rules | `(tactic| k_all) => `(tactic| assumption)
local macro_rules | `(tactic| k_mem) => `(tactic| assumption)
local macro_rules | `(tactic| is_list) => `(tactic| exact News.isList (by k_asm) (by k_mem))
local macro_rules | `(tactic| l_fact) => `(tactic| first | omega | ((try simp only [List.length_append, List.length_cons, List.length_nil, List.length_map] at *); omega))
local macro_rules | `(tactic| walk_at "call builtin:sorted") => `(tactic| (k_here; (with_reducible show wpAny _ _ (call (Value.builtin _) [Value.ref _]) _ _ _); k_dflt (refine' sorted_news ?F ?N ?m ?i ?z ?_; (case F => k_asm); (case N => k_asm); (case m => k_mem); (case i => assumption); (case z => l_fact); k_whole); intro D' vs' ns' c' h' F' N' l1 i' p' o'; (try k_lt l1); (have pl' := p'.length_eq); (try k_sweep)))
local macro_rules | `(tactic| walk_at "binaryOp Add ref ref") => `(tactic| (k_here; (try k_made); k_dflt (refine' add_news ?F ?N ?a ?b ?i ?j ?z ?_; (case F => k_asm); (case N => k_asm); (case a => k_mem); (case b => k_mem); (case i => l_ints); (case j => l_ints); (case z => l_fact); k_whole); intro D' ws' h' F' N' l1 hI'; (try k_lt l1); (try k_sweep)))
local macro_rules | `(tactic| walk_at "call builtin:len") => `(tactic| (k_here; (with_reducible show wpAny _ _ (call (Value.builtin _) [Value.ref _]) _ _ _); k_dflt (refine' len_news ?N ?m ?i ?z ?_; (case N => k_asm); (case m => k_mem); (case i => l_ints); (case z => l_fact); k_whole)))
local macro_rules | `(tactic| walk_at "subscriptTail") => `(tactic| (k_here; (with_reducible show wpAny _ _ (subscriptTail _ _ (Value.ref _) (Value.int _ _)) _ _ _); k_dflt (refine' item_news ?N ?m ?i ?a ?b ?z ?_ ?s; (case N => k_asm); (case m => k_mem); (case i => l_ints); (case a => l_fact); (case b => l_fact); (case z => l_fact); (case s => with_unfolding_all rfl); k_whole); intro t'))
local macro_rules | `(tactic| walk_at "compareOp NotIn int ref") => `(tactic| (k_here; k_dflt (refine' notin_news ?N ?m ?i ?_; (case N => k_asm); (case m => k_mem); (case i => l_ints); k_whole)))
local macro_rules | `(tactic| walk_at "call builtin:dict.get") => `(tactic| (k_here; k_dflt (first
  | (refine' get_gen ?N ?m ?d ?g ?o ?_; (case N => k_asm); (case m => k_mem); (case d => assumption); (case g => assumption); (case o => assumption); k_whole; intro t')
  | (refine' get_news ?N ?m ?d ?o ?_; (case N => k_asm); (case m => k_mem); (case d => assumption); (case o => assumption); k_whole)
  | (refine' get1_news ?N ?m ?d ?o ?_; (case N => k_asm); (case m => k_mem); (case d => assumption); (case o => assumption); k_whole))))
local macro_rules | `(tactic| walk_at "getMethod ref") => `(tactic| (k_here; k_dflt (refine' getMethod_news ?N ?m ?d ?_; (case N => k_asm); (case m => k_mem); (case d => assumption); k_whole)))
local macro_rules | `(tactic| walk_at "subscriptTail") => `(tactic| (k_here; (with_reducible show wpAny _ _ (subscriptTail _ _ (Value.ref _) (Value.int _ _)) _ _ _); k_dflt (refine' item_dict_news ?N ?m ?d ?l ?_ ?s; (case N => k_asm); (case m => k_mem); (case d => assumption); (case l => assumption); (case s => with_unfolding_all rfl); k_whole)))
local macro_rules | `(tactic| walk_at "setItem ref int") => `(tactic| (k_here; k_dflt (refine' set_news ?F ?N ?U ?d ?z ?_; (case F => k_asm); (case N => k_asm); (case U => k_updF); (case d => assumption); (case z => l_fact); k_whole); intro h' o' F' N' hd'; (try dsimp only at N'); (try k_sweep)))
local macro_rules | `(tactic| lcg_sub) => `(tactic| (intro p9 hp9; k_mem))
local macro_rules | `(tactic| walk_at "call builtin:sorted") => `(tactic| (k_here; (with_reducible show wpAny _ _ (call (Value.builtin _) [Value.ref _]) _ _ _); k_dflt (refine' sorted_dict_news ?h ?F ?N ?m ?d ?o ?z ?_; (case h => rfl); (case F => k_asm); (case N => k_asm); (case m => k_mem); (case d => assumption); (case o => assumption); (case z => l_fact); k_whole); intro D' vs' ns' c' h' tk' F' N' l1 i' p' o'; (try k_lt l1); (have pl' := p'.length_eq); (try k_sweep)))
local macro_rules | `(tactic| walk_at "call builtin:dict.get") => `(tactic| (k_here; k_dflt (refine' get1_hit ?N ?m ?d ?o ?l ?_; (case N => k_asm); (case m => k_mem); (case d => assumption); (case o => assumption); (case l => assumption); k_whole)))
local macro_rules | `(tactic| walk_at "compareOp In int ref") => `(tactic| (k_here; k_dflt (refine' in_news ?N ?m ?d ?o ?b ?_; (case N => k_asm); (case m => k_mem); (case d => assumption); (case o => assumption); (case b => assumption); k_whole)))
local macro_rules | `(tactic| walk_at "call builtin:list.append") => `(tactic| (k_here; k_dflt (refine' append_news ?F ?N ?U ?z ?_; (case F => k_asm); (case N => k_asm); (case U => k_upd); (case z => l_fact); k_whole); intro h' F' N'; (try dsimp only at N'); (try k_sweep)))

def WalkPost (ps : List Int) (rest : List (Addr × Obj)) (r : Value) (news' : List (Addr × Obj)) : Prop :=
  ∃ (D : Addr) (vs : List Value) (c : Nat), r = .ref D ∧ news' = (D, lstO vs c) :: rest ∧ IntsAre vs ps ∧ (∀ q ∈ rest, q.1 < D)
def cofJ (prog : Program) (w : World) (ps : List Int) (kn fl : Addr) (rest : List (Addr × Obj)) (m₀ : Str → Option Value) (n : Nat) (m₁ : Str → Option Value) (nx : List (Addr × Obj)) : Prop :=
  ∃ (i : Nat) (u : Option Value) (t : Tok) (ko : Obj) (kk : List (Int × Value)) (ys : List Value) (c : Nat), i ≤ ps.length ∧ n = ps.length - i ∧ m₁ = (fun z => if z = Str.ofString "here" then some (.int ((0 :: ps).getD i 0) t) else if z = Str.ofString "entry" then u else m₀ z) ∧
    nx = (kn, ko) :: (fl, lstO ys c) :: rest ∧ ko.IsDictOf (PySem.intKind prog w) kk ∧ kk.length ≤ i + 1 ∧ IntsAre ys (ps.take i) ∧ ∀ k, (valueAt kk k).isSome = true ↔ (k = 0 ∨ k ∈ ps.take i)
theorem rising_in {ps : List Int} (h : ps.Pairwise (· < ·)) {i : Nat} (hi : i < ps.length) : ps.getD i 0 ∉ ps.take i := by
  w_top off
  intro hm
  obtain ⟨j, hj, e⟩ := List.getElem_of_mem hm
  rw [List.getElem_take] at e
  rw [List.length_take] at hj
  have h1 := List.pairwise_iff_getElem.mp h j i (by omega) hi (by omega)
  rw [List.getD_eq_getElem?_getD, List.getElem?_eq_getElem hi] at e
  simp only [Option.getD_some] at e
  omega
theorem at_mem {ps : List Int} {i : Nat} (hi : i ≤ ps.length) : (0 :: ps).getD i 0 = 0 ∨ (0 :: ps).getD i 0 ∈ ps := by
  w_top off
  cases i with
  | zero => exact .inl rfl
  | succ j => right; rw [List.getD_eq_getElem?_getD, List.getElem?_cons_succ, List.getElem?_eq_getElem (by omega)]; exact List.getElem_mem _
section
local macro_rules | `(tactic| walk_at "exec While") => `(tactic| (refine stop ?_))
local macro_rules | `(tactic| walk_at "compareOp In int ref") => `(tactic| (k_here; k_dflt (refine' in_news (b := false) ?N ?m ?d ?o ?b ?_; (case N => k_asm); (case m => k_mem); (case d => assumption); (case o => assumption); (case b => (refine' (?f : ¬ (_ : Int) = 0 → _) ?g <;> assumption)); k_whole)))
theorem cof_ok (w : World) (e : Addr) (eo : Obj) (kvs : List (Int × Value)) (ns ps : List Int) (gen : Int → Int) (rest : List (Addr × Obj))
   (he : (e, eo) ∈ rest) (hd : eo.IsDictOf (PySem.intKind PySem.Challenge.rw_og0121_01.row.prog w) kvs) (hes : (e == sysModules) = false) (hE : EntsAre w.params rest kvs (chainS ns gen)) (hps : Rising ns ps) (hlen : ps.length ≤ 12) :
   CallOK w 99 [.ref e] rest (WalkPost ps rest) := by
  w_top off
  unfold CallOK
  intro mean mg mb cn cs aa ccd cl base h₀ L m s Q E B F X N T hkf ret
  refine wpAny_call ?_
  k_dflt ktr_enter
  rename Fr _ _ _ (fun _ => List.lookup _ _) => F1
  replace F1 := fr_congr F1 (lookup1 (Str.ofString "entries") (.ref e))
  k_steps
  rename_i g' L' h6 FG B' X' T' fl h5 l1 h4 kn h3 o1 lo hs fs hi fi l2 h2 h1 ko hko hh F' N'
  have hfl : ∀ p ∈ rest, p.1 < fl := l1
  have hst : stored ([] : List (Int × Value)) 0 (.bool true) = [(0, .bool true)] := rfl
  rw [hst] at hko
  refine Stop.mk ?_
  refine While_ret (n₀ := ps.length - 0) (cofJ _ w ps kn fl rest (fun y => if y = Str.ofString "known" then some (Value.ref kn) else if y = Str.ofString "found" then some (Value.ref fl) else if y = Str.ofString "entries" then some (Value.ref e) else none)) F' N'
    ⟨0, none, tk + 1 + 1 + 1, ko, _, [], 0, Nat.zero_le _, rfl, ?_, rfl, hko, Nat.le_refl _, .nil, ?_⟩ ?_ (by first | passes_own | with_unfolding_all passes_own)
  · funext z
    by_cases h1 : z = Str.ofString "here"
    · subst h1; rfl
    · simp only [if_neg h1]
      by_cases h2 : z = Str.ofString "entry"
      · subst h2; rfl
      · simp only [if_neg h2]
  · intro k
    by_cases hk : k = 0
    · subst hk; simp [valueAt]
    · have : ¬ (0:Int) = k := fun q => hk q.symm
      simp [valueAt, hk, this]
  rintro n m₁ _ hp tkp Fp Np ⟨i, u, t, ko2, kk, ys, c, hi9, rfl, rfl, rfl, hkd, hkl, hys, hkk⟩
  clear F' N'
  have hv1 := IntsAre.length hys
  rw [List.length_take] at hv1
  have hnx := nxt_rising hps i hi9
  have hal := at_mem (ps := ps) hi9
  have hCh : chainS ns gen ((0 :: ps).getD i 0) = some (ps.getD i 0, if (0 :: ps).getD i 0 = 0 then 65535 else gen ((0 :: ps).getD i 0)) := by
    unfold chainS
    rw [if_pos, hnx]
    rcases hal with q | q
    · exact .inl q
    · exact .inr ((hps.2 _).mp q)
  have hEk := hE ((0 :: ps).getD i 0)
  rw [hCh] at hEk
  obtain ⟨v, hv, x, dx, t1, t2, t3, t4, t5, t6, nn, rfl, mx, md⟩ := hEk
  have hbn : ¬ ps.getD i 0 = 0 → (valueAt kk (ps.getD i 0)).isSome = false := by
    intro hne
    rw [Bool.eq_false_iff]
    intro q
    rcases (hkk _).mp q with q | q
    · exact hne q
    · rcases Nat.lt_or_ge i ps.length with r | r
      · exact rising_in hps.1 r q
      · apply hne; rw [List.getD_eq_getElem?_getD, List.getElem?_eq_none r]; rfl
  have hilt : ¬ ps.getD i 0 = 0 → i < ps.length := by
    intro hne
    rcases Nat.lt_or_ge i ps.length with r | r
    · exact r
    · exfalso; apply hne; rw [List.getD_eq_getElem?_getD, List.getElem?_eq_none r]; rfl
  have hnext : (0 :: ps).getD (i + 1) 0 = ps.getD i 0 := by simp [List.getD]
  generalize hN : ps.getD i 0 = nx at *
  generalize (0 :: ps).getD i 0 = cur at *
  dsimp only at md
  have hnx0 : nx = 0 → i = ps.length := by
    intro e0
    rcases Nat.lt_or_ge i ps.length with r | r
    · have : ps.getD i 0 ∈ ps := by
        rw [List.getD_eq_getElem?_getD, List.getElem?_eq_getElem r]; exact List.getElem_mem r
      rw [hN] at this
      have := ((hps.2 _).mp this).1
      omega
    · omega
  k_steps
  · have hi0 := hnx0 (by assumption)
    dsimp only [WrPost]
    rw [hi0, List.take_length] at hys
    k_steps
    rename Fr h₀ L _ m => FE
    rename News h₀ L _ _ => NE
    exact ret _ _ _ _ FE (news_sub NE (news' := (fl, lstO ys c) :: rest) (by lcg_sub)) ⟨fl, ys, c, rfl, rfl, hys, hfl⟩
  · have hil := hilt (by assumption)
    rename Fr g' L' _ _ => FE
    rename News g' L' _ _ => NE
    rename Obj.IsDictOf _ _ (stored _ _ _) => dE
    have htk : ps.take (i + 1) = ps.take i ++ [nx] := by
      rw [List.take_add_one, List.getElem?_eq_getElem hil]
      rw [List.getD_eq_getElem?_getD, List.getElem?_eq_getElem hil] at hN
      simp only [Option.getD_some] at hN
      rw [hN]; rfl
    refine WrEnd.intro (n' := ps.length - (i + 1)) FE (news_sub NE (news' := (kn, _) :: (fl, lstO (ys ++ [Value.int nx t4]) (c + 1)) :: rest) (by lcg_sub)) (by omega) ⟨i + 1, some (.ref x), t4, _, _, _, _, by omega, rfl, ?_, rfl, dE, ?_, ?_, ?_⟩
    · rw [hnext]
      funext z
      by_cases h1 : z = Str.ofString "here"
      · simp only [if_pos h1]
      · by_cases h2 : z = Str.ofString "entry"
        · simp only [if_neg h1, if_pos h2]
        · simp only [if_neg h1, if_neg h2]
    · have := stored_len kk nx (.bool true); omega
    · rw [htk]; exact IntsAre.append hys (.cons _ _ .nil)
    · intro k
      rw [valueAt_stored, htk]
      by_cases hk : k = nx
      · rw [if_pos hk]; simp [hk]
      · rw [if_neg hk, hkk k]; simp [hk]
end

end Mine
namespace Mine
theorem CallOK.go {w : World} {f : Addr} {args : List Value} {news news₀ : List (Addr × Obj)} {Post : Value → List (Addr × Obj) → Prop} {mean : ExcName → Option Value} {mg mb : Str → Option Value} {cn : Str} {cs : Scope} {a : Addr} {ccd : Value} {cl : List (Str × Addr)}
    {base h₀ : Heap} {L : Addr} {m : Str → Option Value} {s : Shared} {Q E : Value → Shared → Prop} (C : CallOK w f args news Post)
    (B : Below callerA base [] h₀) (F : Fr h₀ L s.heap m) (X : (Mine.hd.heap_39 w.params).In h₀) (N : News h₀ L s.heap news₀) (hs : ∀ p ∈ news, p ∈ news₀)
    (T : Top Mine.hd.view_39 (looseW Mine.hd.view_39 [Str.ofString "PaperError"]) mean mg mb h₀) (hk : cs.kind = .function)
    (h : ∀ r news' h' tk', Fr h₀ L h' m → News h₀ L h' news' → Post r news' → Q r { s with heap := h', toks := tk' }) :
    wpAny (model PySem.Challenge.rw_og0121_01.row.prog w) (callerA.deeper (envX cn cs L a ccd cl)) (call (.ref f) args) Q E s :=
  C mean mg mb cn cs a ccd cl base h₀ L m s Q E B F X (news_sub N hs) T hk h
theorem draw_go (w : World) (P q : Addr) (o1 o2 : Obj) (k : Int) (tk : Tok) {news : List (Addr × Obj)} {g1 : Obj → List (Addr × Obj)} {g2 : Obj → Obj → List (Addr × Obj)}
   (hpen : PenIs q o1 o2) (hk : 0 < k) (hk2 : k < 1000000) (hPq : @Ne Nat P q) (U1 : UpdF P o1 news g1) (U2 : ∀ o, UpdF q o2 (g1 o) (g2 o)) :
   CallOK w 111 [.ref P, .int k tk] news (fun r news' => ∃ d td o1' o2', r = .int d td ∧ 0 ≤ d ∧ d < k ∧ PenIs q o1' o2' ∧ news' = g2 o1' o2') := by
  obtain ⟨pre, post, e1, e2, e3, e4⟩ := U1.split
  have hg1 : g1 o1 = news := by rw [e2, e1]
  have hPm : (P, o1) ∈ news := by rw [e1]; simp
  have hqm : (q, o2) ∈ news := by
    obtain ⟨pre2, post2, f1, f2, f3, f4⟩ := (U2 o1).split
    rw [← hg1, f1]; simp
  intro mean mg mb cn cs aa ccd cl base h₀ L m s Q E B F X N T hkf ret
  have D := draw_ok w P q o1 o2 (news.filter fun p => decide (p.1 ≠ P) && decide (p.1 ≠ q)) k tk hpen hk hk2 hPq (fun p hp => by have := (List.mem_filter.mp hp).2; simp at this; exact this.1) (fun p hp => by have := (List.mem_filter.mp hp).2; simp at this; exact this.2)
  refine D mean mg mb cn cs aa ccd cl base h₀ L m s Q E B F X (news_sub N fun p hp => ?_) T hkf fun r news' h' tk' F' N' hp => ?_
  · rcases List.mem_cons.mp hp with rfl | hp
    · exact hPm
    · rcases List.mem_cons.mp hp with rfl | hp
      · exact hqm
      · exact (List.mem_filter.mp hp).1
  · obtain ⟨d, td, o1', o2', rfl, h1, h2, h3, rfl⟩ := hp
    refine ret _ _ h' tk' F' (news_sub N' fun p hp => ?_) ⟨d, td, o1', o2', rfl, h1, h2, h3, rfl⟩
    obtain ⟨pre2, post2, f1, f2, f3, f4⟩ := (U2 o1').split
    rw [f2] at hp
    have key : (p = (q, o2')) ∨ (p ∈ g1 o1' ∧ p.1 ≠ q) := by
      rw [f1]
      rcases List.mem_append.mp hp with hp | hp
      · exact .inr ⟨List.mem_append_left _ hp, f3 p hp⟩
      · rcases List.mem_cons.mp hp with hp | hp
        · exact .inl hp
        · exact .inr ⟨List.mem_append_right _ (.tail _ hp), f4 p hp⟩
    rcases key with rfl | ⟨hp, hq⟩
    · exact .tail _ (.head _)
    · rw [e2] at hp
      have fin : p ∈ news → p.1 ≠ P → p ∈ (P, o1') :: (q, o2') :: news.filter fun p => decide (p.1 ≠ P) && decide (p.1 ≠ q) := fun a b => .tail _ (.tail _ (List.mem_filter.mpr ⟨a, by simp [b, hq]⟩))
      rcases List.mem_append.mp hp with hp | hp
      · exact fin (by rw [e1]; exact List.mem_append_left _ hp) (e3 p hp)
      · rcases List.mem_cons.mp hp with rfl | hp
        · exact .head _
        · exact fin (by rw [e1]; exact List.mem_append_right _ (.tail _ hp)) (e4 p hp)
theorem pen_is {q : Addr} {vs : List Value} {script : List Int} {n : Nat} {t u : Tok} (h : IntsAre vs (script.map fun x => 2 * Int.natAbs x + if x < 0 then 1 else 0)) (hl : script.length ≤ 63) : PenIs q (penO q 0 t 0 u) (lstO vs n) :=
  PenIs.intro h (by simpa using hl) (fun x hx => by
    obtain ⟨y, _, rfl⟩ := List.mem_map.mp hx
    split <;> omega) (Int.le_refl _) (Int.le_refl _)

end Mine
namespace Mine
theorem fill_P2 : (fun (_ : OpenLaw) (_ : Params → Frag) => True) PySem.Challenge.rw_og0121_01 Mine.hd.heap_39 := by
  k_fill
  trivial
local macro_rules | `(tactic| walk_at "no such step 0") => `(tactic| fail "no such step")
local macro_rules | `(tactic| walk_at "no such step 1") => `(tactic| fail "no such step")
local macro_rules | `(tactic| walk_at "no such step 2") => `(tactic| fail "no such step")
local macro_rules | `(tactic| k_all) => `(tactic| assumption)
local macro_rules | `(tactic| k_mem) => `(tactic| assumption)
local macro_rules | `(tactic| is_list) => `(tactic| exact News.isList (by k_asm) (by k_mem))
local macro_rules | `(tactic| l_fact) => `(tactic| first | omega | ((try simp only [List.length_append, List.length_cons, List.length_nil, List.length_map] at *); omega))
local macro_rules | `(tactic| walk_at "call builtin:sorted") => `(tactic| (k_here; (with_reducible show wpAny _ _ (call (Value.builtin _) [Value.ref _]) _ _ _); k_dflt (refine' sorted_news ?F ?N ?m ?i ?z ?_; (case F => k_asm); (case N => k_asm); (case m => k_mem); (case i => assumption); (case z => l_fact); k_whole); intro D' vs' ns' c' h' F' N' l1 i' p' o'; (try k_lt l1); (have pl' := p'.length_eq); (try k_sweep)))
local macro_rules | `(tactic| walk_at "binaryOp Add ref ref") => `(tactic| (k_here; (try k_made); k_dflt (refine' add_news ?F ?N ?a ?b ?i ?j ?z ?_; (case F => k_asm); (case N => k_asm); (case a => k_mem); (case b => k_mem); (case i => l_ints); (case j => l_ints); (case z => l_fact); k_whole); intro D' ws' h' F' N' l1 hI'; (try k_lt l1); (try k_sweep)))
local macro_rules | `(tactic| walk_at "call builtin:len") => `(tactic| (k_here; (with_reducible show wpAny _ _ (call (Value.builtin _) [Value.ref _]) _ _ _); k_dflt (refine' len_news ?N ?m ?i ?z ?_; (case N => k_asm); (case m => k_mem); (case i => l_ints); (case z => l_fact); k_whole)))
local macro_rules | `(tactic| walk_at "subscriptTail") => `(tactic| (k_here; (with_reducible show wpAny _ _ (subscriptTail _ _ (Value.ref _) (Value.int _ _)) _ _ _); k_dflt (refine' item_news ?N ?m ?i ?a ?b ?z ?_ ?s; (case N => k_asm); (case m => k_mem); (case i => l_ints); (case a => l_fact); (case b => l_fact); (case z => l_fact); (case s => with_unfolding_all rfl); k_whole); intro t'))
local macro_rules | `(tactic| walk_at "compareOp NotIn int ref") => `(tactic| (k_here; k_dflt (refine' notin_news ?N ?m ?i ?_; (case N => k_asm); (case m => k_mem); (case i => l_ints); k_whole)))
local macro_rules | `(tactic| walk_at "call builtin:dict.get") => `(tactic| (k_here; k_dflt (first
  | (refine' get_gen ?N ?m ?d ?g ?o ?_; (case N => k_asm); (case m => k_mem); (case d => assumption); (case g => assumption); (case o => assumption); k_whole; intro t')
  | (refine' get_news ?N ?m ?d ?o ?_; (case N => k_asm); (case m => k_mem); (case d => assumption); (case o => assumption); k_whole)
  | (refine' get1_news ?N ?m ?d ?o ?_; (case N => k_asm); (case m => k_mem); (case d => assumption); (case o => assumption); k_whole))))
local macro_rules | `(tactic| walk_at "getMethod ref") => `(tactic| (k_here; k_dflt (refine' getMethod_news ?N ?m ?d ?_; (case N => k_asm); (case m => k_mem); (case d => assumption); k_whole)))
local macro_rules | `(tactic| walk_at "subscriptTail") => `(tactic| (k_here; (with_reducible show wpAny _ _ (subscriptTail _ _ (Value.ref _) (Value.int _ _)) _ _ _); k_dflt (refine' item_dict_news ?N ?m ?d ?l ?_ ?s; (case N => k_asm); (case m => k_mem); (case d => assumption); (case l => assumption); (case s => with_unfolding_all rfl); k_whole)))
local macro_rules | `(tactic| walk_at "setItem ref int") => `(tactic| (k_here; k_dflt (refine' set_news ?F ?N ?U ?d ?z ?_; (case F => k_asm); (case N => k_asm); (case U => k_updF); (case d => assumption); (case z => l_fact); k_whole); intro h' o' F' N' hd'; (try dsimp only at N'); (try k_sweep)))
local macro_rules | `(tactic| lcg_sub) => `(tactic| (intro p9 hp9; k_mem))
local macro_rules | `(tactic| walk_at "call builtin:sorted") => `(tactic| (k_here; (with_reducible show wpAny _ _ (call (Value.builtin _) [Value.ref _]) _ _ _); k_dflt (refine' sorted_dict_news ?h ?F ?N ?m ?d ?o ?z ?_; (case h => rfl); (case F => k_asm); (case N => k_asm); (case m => k_mem); (case d => assumption); (case o => assumption); (case z => l_fact); k_whole); intro D' vs' ns' c' h' tk' F' N' l1 i' p' o'; (try k_lt l1); (have pl' := p'.length_eq); (try k_sweep)))
local macro_rules | `(tactic| walk_at "call builtin:dict.get") => `(tactic| (k_here; k_dflt (refine' get1_hit ?N ?m ?d ?o ?l ?_; (case N => k_asm); (case m => k_mem); (case d => assumption); (case o => assumption); (case l => assumption); k_whole)))
local macro_rules | `(tactic| walk_at "compareOp In int ref") => `(tactic| (k_here; k_dflt (refine' in_news ?N ?m ?d ?o ?b ?_; (case N => k_asm); (case m => k_mem); (case d => assumption); (case o => assumption); (case b => assumption); k_whole)))
local macro_rules | `(tactic| walk_at "call builtin:list.append") => `(tactic| (k_here; k_dflt (refine' append_news ?F ?N ?U ?z ?_; (case F => k_asm); (case N => k_asm); (case U => k_upd); (case z => l_fact); k_whole); intro h' F' N'; (try dsimp only at N'); (try k_sweep)))

def PenPost (rest : List (Addr × Obj)) (r : Value) (news' : List (Addr × Obj)) : Prop :=
  ∃ P q o1 o2, r = .ref P ∧ news' = (P, o1) :: (q, o2) :: rest ∧ PenIs q o1 o2 ∧ q < P ∧ (∀ p ∈ rest, p.1 < P) ∧ (∀ p ∈ rest, p.1 ≠ q)
theorem off1_mem {D : Addr} : ∀ {l : List (Addr × Obj)}, LCg.Off1 D l → ∀ p ∈ l, p.1 ≠ D
  | [], _ => fun _ h => nomatch h
  | q :: r, x => fun p h => by
    rcases List.mem_cons.mp h with rfl | h
    · exact x.1
    · exact off1_mem x.2 p h
section
local macro_rules | `(tactic| walk_at "eval ListComp") => `(tactic| (k_here; k_dflt (refine LCg.ListComp_U (F₀ := by k_asm) (by with_unfolding_all rfl) (by decide) (by rfl) (by decide) (by rfl) ?_)))
local macro_rules | `(tactic| walk_at "CompSrc") => `(tactic| (refine stop ?_))
theorem pen_ok (w : World) (sl : Addr) (vs : List Value) (script : List Int) (rest : List (Addr × Obj)) (hI : IntsAre vs script) (hlen : script.length ≤ 63)
    (mean : ExcName → Option Value) (mg mb : Str → Option Value) (cn : Str) (cs : Scope) (aa : Addr) (ccd : Value) (cl : List (Str × Addr))
    (base h₀ : Heap) (L : Addr) (m : Str → Option Value) (s : Shared) (Q E : Value → Shared → Prop) (hL : h₀.IsList sl vs.toArray)
    (B : Below callerA base [] h₀) (F : Fr h₀ L s.heap m) (X : (Mine.hd.heap_39 w.params).In h₀) (N : News h₀ L s.heap rest)
    (T : Top Mine.hd.view_39 (looseW Mine.hd.view_39 [Str.ofString "PaperError"]) mean mg mb h₀) (hkf : cs.kind = .function)
    (ret : ∀ r news' h' tk', Fr h₀ L h' m → News h₀ L h' news' → PenPost rest r news' → Q r { s with heap := h', toks := tk' }) :
    wpAny (model PySem.Challenge.rw_og0121_01.row.prog w) (callerA.deeper (envX cn cs L aa ccd cl)) (call (.ref 104) [.ref sl]) Q E s := by
  refine wpAny_call ?_
  k_dflt ktr_enter
  rename Fr _ _ _ (fun _ => List.lookup _ _) => F1
  replace F1 := fr_congr F1 (lookup1 (Str.ofString "script") (.ref sl))
  rename Fr h₀ L _ m => FG
  rename Top _ _ _ _ _ _ => T2
  rename_i g' L' h6 B' X' l1
  obtain ⟨so, hso, hsc, sn, hsd⟩ := hL
  have hL2 : g'.IsList sl vs.toArray := ⟨so, FG.keep _ _ hso, hsc, sn, hsd⟩
  k_steps
  rename IntsAre _ (List.take _ _) => hJ
  rename_i D1 ws h7 F7 N7 l7 hC hLe
  have hv1 := IntsAre.length hJ
  have hsize : (List.take 63 script).length ≤ 63 := by rw [List.length_take]; omega
  refine Stop.mk ?_
  refine LCg.CompSrc.ledger rfl (by k_asm) (by k_asm) (.head _) (by rw [PySem.sizeLine_eq]; simp; omega) ?_
  intro g
  refine compRest_inv (fun i ys news => news = (D1, lstO ws 0) :: rest ∧ ∃ zs : List Int, IntsAre ys zs ∧ zs.length = i ∧ ∀ x ∈ zs, 0 ≤ x) ?_ ?_ _ 0 [] _ (Nat.zero_add _) ⟨rfl, [], .nil, rfl, fun x hx => nomatch hx⟩
  · rintro i ys _ v I oI C oC D m₂ h tk E' hi ⟨rfl, zs, hz, hzl, hz0⟩ hv hoC hx F9 N9 off ne
    obtain ⟨k, t, hk, rfl⟩ := ints_at hJ (i := i) (by simpa using hv)
    clear F7 N7
    k_steps
    refine LCg.CompEnd.intro F9 N9 ((D1, lstO ws 0) :: rest) (by lcg_sub) off (.inr ⟨_, .head _, rfl, _, rfl⟩) ⟨rfl, zs ++ [_], IntsAre.append hz (.cons _ _ .nil), by simp [hzl], ?_⟩
    intro x hx
    rcases List.mem_append.mp hx with hx | hx
    · exact hz0 x hx
    · rw [List.mem_singleton.mp hx]
      split <;> split <;> omega
  · rintro ys _ ⟨rfl, zs, hz, hzl, hz0⟩
    k_steps
    rename_i q h8 tk8 oq P h9 F8 N8 lP FE NE T8 X8
    refine ret _ _ _ _ FE (news_sub NE (news' := (P, penO q 0 tk8 0 (tk8 + 1)) :: (q, LCg.lst ys) :: rest) ?_) ⟨P, q, _, _, rfl, rfl, ?_, lP.1, fun p hp => tb_ltOf lP.2.2 p hp, off1_mem oq.2⟩
    · intro p hp
      rcases List.mem_cons.mp hp with rfl | hp
      · exact .head _
      · rcases List.mem_cons.mp hp with rfl | hp
        · exact .tail _ (.head _)
        · exact .tail _ (.tail _ (.tail _ hp))
    · refine PenIs.intro hz (by rw [hzl]; simp; omega) hz0 (Int.le_refl _) (Int.le_refl _)
end

end Mine
namespace Mine
section
variable {w : World} {mean : ExcName → Option Value} {mg mb : Str → Option Value} {cn : Str} {cs : Scope} {a : Addr} {ccd : Value} {cl : List (Str × Addr)} {base h₀ : Heap} {L : Addr} {m : Str → Option Value} {s : Shared} {Q E : Value → Shared → Prop} {news : List (Addr × Obj)}
theorem pen_news {sl : Addr} {vs : List Value} {script : List Int}
    (B : Below callerA base [] h₀) (F : Fr h₀ L s.heap m) (X : (Mine.hd.heap_39 w.params).In h₀) (N : News h₀ L s.heap news)
    (T : Top Mine.hd.view_39 (looseW Mine.hd.view_39 [Str.ofString "PaperError"]) mean mg mb h₀) (hk : cs.kind = .function)
    (hI : IntsAre vs script) (hlen : script.length ≤ 63) (hL : h₀.IsList sl vs.toArray)
    (h : ∀ P q o1 o2 h' tk', Fr h₀ L h' m → News h₀ L h' ((P, o1) :: (q, o2) :: news) → PenIs q o1 o2 → q < P → (∀ p ∈ news, p.1 < P) → (∀ p ∈ news, @Ne Nat p.1 q) → @Ne Nat P q → Q (.ref P) { s with heap := h', toks := tk' }) :
    wpAny (model PySem.Challenge.rw_og0121_01.row.prog w) (callerA.deeper (envX cn cs L a ccd cl)) (call (.ref 104) [.ref sl]) Q E s := by
  refine pen_ok w sl vs script news hI hlen mean mg mb cn cs a ccd cl base h₀ L m s Q E hL B F X N T hk ?_
  rintro _ _ h' tk' F' N' ⟨P, q, o1, o2, rfl, rfl, hp, l1, l2, l3⟩
  exact h P q o1 o2 h' tk' F' N' hp l1 l2 l3 (Nat.ne_of_gt l1)
theorem draw_news {P q : Addr} {o1 o2 : Obj} {k : Int} {tk : Tok} {g1 : Obj → List (Addr × Obj)} {g2 : Obj → Obj → List (Addr × Obj)}
    (B : Below callerA base [] h₀) (F : Fr h₀ L s.heap m) (X : (Mine.hd.heap_39 w.params).In h₀) (N : News h₀ L s.heap news)
    (T : Top Mine.hd.view_39 (looseW Mine.hd.view_39 [Str.ofString "PaperError"]) mean mg mb h₀) (hkf : cs.kind = .function)
    (hpen : PenIs q o1 o2) (hk : 0 < k) (hk2 : k < 1000000) (hPq : @Ne Nat P q) (U1 : UpdF P o1 news g1) (U2 : ∀ o, UpdF q o2 (g1 o) (g2 o))
    (h : ∀ d td o1' o2' h' tk', Fr h₀ L h' m → News h₀ L h' (g2 o1' o2') → PenIs q o1' o2' → 0 ≤ d → d < k → Q (.int d td) { s with heap := h', toks := tk' }) :
    wpAny (model PySem.Challenge.rw_og0121_01.row.prog w) (callerA.deeper (envX cn cs L a ccd cl)) (call (.ref 111) [.ref P, .int k tk]) Q E s := by
  refine draw_go w P q o1 o2 k tk hpen hk hk2 hPq U1 U2 mean mg mb cn cs a ccd cl base h₀ L m s Q E B F X N T hkf ?_
  rintro _ _ h' tk' F' N' ⟨d, td, o1', o2', rfl, l1, l2, hp, rfl⟩
  exact h d td o1' o2' h' tk' F' N' hp l1 l2
theorem chain_news {l g : Addr} {go : Obj} {vs : List Value} {ns : List Int} {n : Nat} {kvs : List (Int × Value)} {gen : Int → Int}
    (B : Below callerA base [] h₀) (F : Fr h₀ L s.heap m) (X : (Mine.hd.heap_39 w.params).In h₀) (N : News h₀ L s.heap news)
    (T : Top Mine.hd.view_39 (looseW Mine.hd.view_39 [Str.ofString "PaperError"]) mean mg mb h₀) (hkf : cs.kind = .function)
    (hl : (l, lstO vs n) ∈ news) (hi : IntsAre vs ns) (hlen : ns.length ≤ 12) (hg : (g, go) ∈ news) (hgo : go.IsDictOf (PySem.intKind PySem.Challenge.rw_og0121_01.row.prog w) kvs) (hgen : GenIs kvs gen) (hgs : (g == sysModules) = false)
    (h : ∀ d o tl kvs' h' tk', Fr h₀ L h' m → News h₀ L h' ((d, o) :: (tl ++ news)) → (d == sysModules) = false → o.IsDictOf (PySem.intKind PySem.Challenge.rw_og0121_01.row.prog w) kvs' → kvs'.length ≤ 13 → (∀ q ∈ news, q.1 < d) → (∀ p ∈ tl, d < p.1) → EntsAre w.params tl kvs' (chainS ns gen) → Q (.ref d) { s with heap := h', toks := tk' }) :
    wpAny (model PySem.Challenge.rw_og0121_01.row.prog w) (callerA.deeper (envX cn cs L a ccd cl)) (call (.ref 87) [.ref l, .ref g]) Q E s := by
  refine chain_ok w l g go vs ns n kvs gen news hi hlen hl hg hgo hgen hgs mean mg mb cn cs a ccd cl base h₀ L m s Q E B F X N T hkf ?_
  rintro _ _ h' tk' F' N' ⟨d, o, tl, kvs', rfl, lo, rfl, hd, h13, l1, l2, hE⟩
  exact h d o tl kvs' h' tk' F' N' lo hd h13 l1 l2 hE
theorem told_news {e : Addr} {eo : Obj} {kvs : List (Int × Value)} {f : Int → Option (Int × Int)} 
    (B : Below callerA base [] h₀) (F : Fr h₀ L s.heap m) (X : (Mine.hd.heap_39 w.params).In h₀) (N : News h₀ L s.heap news)
    (T : Top Mine.hd.view_39 (looseW Mine.hd.view_39 [Str.ofString "PaperError"]) mean mg mb h₀) (hkf : cs.kind = .function)
    (he : (e, eo) ∈ news) (hd : eo.IsDictOf (PySem.intKind PySem.Challenge.rw_og0121_01.row.prog w) kvs) (hlen : kvs.length ≤ 13) (hes : (e == sysModules) = false) {sub : List (Addr × Obj)} (hE : EntsAre w.params sub kvs f) (hsub : ∀ p ∈ sub, p ∈ news)
    (h : ∀ d o tl kvs' h' tk', Fr h₀ L h' m → News h₀ L h' ((d, o) :: (tl ++ news)) → (d == sysModules) = false → o.IsDictOf (PySem.intKind PySem.Challenge.rw_og0121_01.row.prog w) kvs' → kvs'.length ≤ 13 → (∀ q ∈ news, q.1 < d) → (∀ p ∈ tl, p.1 < d) → (∀ p ∈ tl, ∀ q ∈ news, q.1 < p.1) → TupsAre tl kvs' f → Q (.ref d) { s with heap := h', toks := tk' }) :
    wpAny (model PySem.Challenge.rw_og0121_01.row.prog w) (callerA.deeper (envX cn cs L a ccd cl)) (call (.ref 123) [.ref e]) Q E s := by
  have hE' : EntsAre w.params news kvs f := by
    intro k
    have := hE k
    cases q : f k with
    | none => rw [q] at this; exact this
    | some x =>
      rw [q] at this
      obtain ⟨v, hv, hx⟩ := this
      exact ⟨v, hv, hx.mono hsub⟩
  refine told_ok w e eo kvs f news he hd hlen hes hE' mean mg mb cn cs a ccd cl base h₀ L m s Q E B F X N T hkf ?_
  rintro _ _ h' tk' F' N' ⟨d, o, tl, kvs', rfl, lo, rfl, hd, h13, l1, l2, l3, hE⟩
  exact h d o tl kvs' h' tk' F' N' lo hd h13 l1 l2 l3 hE
end
end Mine
namespace Mine
section
variable {prog : Program} {w : World} {A : Around} {E : Value → Shared → Prop} {s : Shared} {h₀ : Heap} {L l : Addr} {m : Str → Option Value} {news : List (Addr × Obj)} {vs : List Value} {ns : List Int} {n : Nat} {Q : Value → Shared → Prop}
theorem slice_news {value slice : PySem.Expr} {vl vu : Value} {lo hi : Option Int} {ms : List Int} (F : Fr h₀ L s.heap m) (N : News h₀ L s.heap news) (hm : (l, lstO vs n) ∈ news) (hi' : IntsAre vs ns) (pl : IsPart vl lo) (pu : IsPart vu hi) (hms : IntsAre (slicePick vs.toArray lo hi none).toList ms) (hz : ns.length ≤ 1000)
    (h : ∀ D ws h', Fr h₀ L h' m → News h₀ L h' ((D, lstO ws 0) :: news) → (∀ p ∈ news, p.1 < D) → IntsAre ws ms → ms.length ≤ ns.length → Q (.ref D) { s with heap := h' })
    (hs : subscripted slice false (.ref l) (.ref s.heap.objs.size) = operate [.ref s.heap.objs.size, .ref l] (getItem (.ref l) (.ref s.heap.objs.size))) (ht : ∀ r, letTemporaryGo value (.ref l) r = pure ()) :
    wpAny (model prog w) A (subscriptTail value slice (.ref l) (.ref s.heap.objs.size)) Q E { s with heap := s.heap.push { cls := .type "slice", data := .fields #[vl, vu, .none] } } :=
  kmk_slice_ints F N (News.isList N hm) pl pu hi' hms rfl (fun D ws h' F' N' l1 i _ le => h D ws h' F' N' l1 i le) hs ht (by rw [List.size_toArray, hi'.length, PySem.sizeLine_eq]; omega)
end
/-- what a list of drawn numbers is -/
structure NumsOK (ns : List Int) : Prop where
  nodup : ns.Nodup
  range : ∀ x ∈ ns, 1 ≤ x ∧ x ≤ 39
  len : ns.length ≤ 9
theorem split_in {ns : List Int} {k : Int} (j : Nat) (hn : ns.Nodup) (hk : k ∉ ns) : (ns.take j ++ [k] ++ ns.drop j).Nodup := by
  have h1 : (ns.take j ++ ns.drop j).Nodup := by rw [List.take_append_drop]; exact hn
  rw [List.nodup_append] at h1
  obtain ⟨a, b, c⟩ := h1
  rw [List.append_assoc, List.nodup_append]
  refine ⟨a, ?_, ?_⟩
  · rw [List.singleton_append, List.nodup_cons]
    exact ⟨fun h => hk (List.mem_of_mem_drop h), b⟩
  · intro x hx y hy
    rw [List.singleton_append] at hy
    rcases List.mem_cons.mp hy with rfl | hy
    · exact fun e => hk (e ▸ List.mem_of_mem_take hx)
    · exact c x hx y hy
theorem split_mem {ns : List Int} {k x : Int} {j : Nat} (h : x ∈ ns.take j ++ [k] ++ ns.drop j) : x = k ∨ x ∈ ns := by
  rw [List.append_assoc, List.singleton_append] at h
  rcases List.mem_append.mp h with h | h
  · exact .inr (List.mem_of_mem_take h)
  · rcases List.mem_cons.mp h with h | h
    · exact .inl h
    · exact .inr (List.mem_of_mem_drop h)
theorem split_len {ns : List Int} {k : Int} {j : Nat} : (ns.take j ++ [k] ++ ns.drop j).length = ns.length + 1 := by
  simp only [List.length_append, List.length_take, List.length_drop, List.length_cons, List.length_nil]; omega
/-- the law's ledger with the pen and the numbers -/
structure Law3 (h₀ : Heap) (L : Nat) (P q : Addr) (c1 c3 c4 : Obj) (i : Nat) (nx : List (Addr × Obj)) (nl : Addr) (o1 o2 c2 : Obj) (vs : List Value) (ns : List Int) (n : Nat) : Prop where
  eq : nx = [(nl, lstO vs n), (P, o1), (q, o2), (L + 1 + 1 + 1 + 1, c4), (L + 1 + 1 + 1, c3), (L + 1 + 1, c2), (L + 1, c1)]
  pen : PenIs q o1 o2
  isn : IntsAre vs ns
  nodup : ns.Nodup
  range : ∀ x ∈ ns, 1 ≤ x ∧ x ≤ 39
  len : ns.length ≤ i
  cell : c2.data = .cell (some (.ref nl))
  above : @LT.lt Nat _ P nl ∧ @LT.lt Nat _ q nl ∧ @LT.lt Nat _ (L + 1 + 1 + 1 + 1) nl
abbrev lawM (sl : Addr) (u1 u2 : Option Value) : Str → Option Value := fun y => if y = Str.ofString "number" then u1 else if y = Str.ofString "turn" then u2 else if y = Str.ofString "script" then some (.ref sl) else none
theorem lawM_put {sl : Addr} {a b u1 u2 : Option Value} : (fun y => if y = Str.ofString "number" then a else if y = Str.ofString "turn" then b else lawM sl u1 u2 y) = lawM sl a b := by
  funext y
  unfold lawM
  by_cases h1 : y = Str.ofString "number"
  · simp only [if_pos h1]
  · by_cases h2 : y = Str.ofString "turn"
    · simp only [if_neg h1, if_pos h2]
    · simp only [if_neg h1, if_neg h2]
def lawJ (h₀ : Heap) (L : Nat) (sl P q : Addr) (c1 c3 c4 : Obj) (i : Nat) (m : Str → Option Value) (nx : List (Addr × Obj)) : Prop :=
  ∃ u1 u2 nl o1 o2 c2 vs ns n, m = lawM sl u1 u2 ∧ Law3 h₀ L P q c1 c3 c4 i nx nl o1 o2 c2 vs ns n
structure Ground3 (L : Nat) (P q : Addr) (c1 c3 c4 : Obj) : Prop where
  pq : @LT.lt Nat _ q P
  above : @LT.lt Nat _ (L + 1 + 1 + 1 + 1) P
  off : @Ne Addr (L + 1 + 1 + 1 + 1) q ∧ @Ne Addr (L + 1 + 1 + 1) q ∧ @Ne Addr (L + 1 + 1) q ∧ @Ne Addr (L + 1) q
  d1 : c1.data = .cell (some (.ref P))
  d3 : c3.data = .cell none
  d4 : c4.data = .cell none
def St3 (s : Shared) (L : Nat) (sl : Addr) (s' : Shared) : Prop :=
  ∃ h tk m nx P q c1 c3 c4, s' = { s with heap := h, toks := tk } ∧ Fr s.heap L h m ∧ News s.heap L h nx ∧ Ground3 L P q c1 c3 c4 ∧ lawJ s.heap L sl P q c1 c3 c4 9 m nx
theorem lawJ.mono {h₀ : Heap} {L : Nat} {sl P q : Addr} {c1 c3 c4 : Obj} {i j : Nat} {m : Str → Option Value} {nx : List (Addr × Obj)} (h : lawJ h₀ L sl P q c1 c3 c4 i m nx) (hij : i ≤ j) : lawJ h₀ L sl P q c1 c3 c4 j m nx := by
  obtain ⟨u1, u2, nl, o1, o2, c2, vs, ns, n, e, H⟩ := h
  exact ⟨u1, u2, nl, o1, o2, c2, vs, ns, n, e, { H with len := Nat.le_trans H.len hij }⟩
end Mine
namespace Mine
def GenInv (P q bd : Addr) (base : List (Addr × Obj)) (ns : List Int) (i : Nat) (ys : List Value) (news : List (Addr × Obj)) : Prop :=
  ∃ o1 o2 tl, ∃ prs : List (Int × Value), news = (P, o1) :: (q, o2) :: (tl ++ base) ∧ PenIs q o1 o2 ∧ (∀ p ∈ tl, @LT.lt Nat _ bd p.1) ∧ prs.length = ys.length ∧
    (∀ (j : Nat) (v : Value), ys[j]? = some v → ∃ k x, prs[j]? = some (k, x) ∧ PairIn tl v k x) ∧ (prs.map (·.1)).Sublist (ns.take i) ∧ ∀ p ∈ prs, ∃ g t, p.2 = .int g t
theorem GenInv.snoc {P q bd : Addr} {base tl : List (Addr × Obj)} {ns : List Int} {i : Nat} {ys : List Value} {prs : List (Int × Value)} {o1 o2 : Obj} {k g : Int} {t u : Tok} {D : Addr} {n : Nat} (hk : ns[i]? = some k)
    (hp : PenIs q o1 o2) (hlt : ∀ p ∈ tl, @LT.lt Nat _ bd p.1) (hl : prs.length = ys.length) (hpr : ∀ (j : Nat) (v : Value), ys[j]? = some v → ∃ k x, prs[j]? = some (k, x) ∧ PairIn tl v k x) (hs : (prs.map (·.1)).Sublist (ns.take i)) (hi : ∀ p ∈ prs, ∃ g t, p.2 = .int g t)
    (hD : @LT.lt Nat _ bd D) : GenInv P q bd base ns (i + 1) (ys ++ [.ref D]) ((P, o1) :: (q, o2) :: (((D, ({ cls := .type "tuple", data := .seq #[.int k t, .int g u] n } : Obj)) :: tl) ++ base)) := by
  refine ⟨o1, o2, _, prs ++ [(k, .int g u)], rfl, hp, ?_, by simp [hl], ?_, ?_, ?_⟩
  · intro p hp
    rcases List.mem_cons.mp hp with rfl | hp
    · exact hD
    · exact hlt p hp
  · intro j v hj
    rcases Nat.lt_trichotomy j ys.length with r | r | r
    · rw [List.getElem?_append_left r] at hj
      obtain ⟨k', x', e1, e2⟩ := hpr j v hj
      exact ⟨k', x', by rw [List.getElem?_append_left (by omega)]; exact e1, e2.mono fun p hp => .tail _ hp⟩
    · subst r
      rw [List.getElem?_append_right (Nat.le_refl _), Nat.sub_self] at hj
      obtain rfl : Value.ref D = v := by simpa using hj
      exact ⟨k, .int g u, by rw [List.getElem?_append_right (by omega)]; simp [hl], D, t, n, rfl, .head _⟩
    · rw [List.getElem?_eq_none (by simp; omega)] at hj; cases hj
  · rw [List.map_append, List.take_add_one, hk]
    exact List.Sublist.append hs (List.Sublist.refl _)
  · intro p hp
    rcases List.mem_append.mp hp with hp | hp
    · exact hi p hp
    · rw [List.mem_singleton.mp hp]; exact ⟨g, u, rfl⟩
theorem GenInv.skip {P q bd : Addr} {base tl : List (Addr × Obj)} {ns : List Int} {i : Nat} {ys : List Value} {prs : List (Int × Value)} {o1 o2 : Obj}
    (hp : PenIs q o1 o2) (hlt : ∀ p ∈ tl, @LT.lt Nat _ bd p.1) (hl : prs.length = ys.length) (hpr : ∀ (j : Nat) (v : Value), ys[j]? = some v → ∃ k x, prs[j]? = some (k, x) ∧ PairIn tl v k x) (hs : (prs.map (·.1)).Sublist (ns.take i)) (hi : ∀ p ∈ prs, ∃ g t, p.2 = .int g t) :
    GenInv P q bd base ns (i + 1) ys ((P, o1) :: (q, o2) :: (tl ++ base)) :=
  ⟨o1, o2, tl, prs, rfl, hp, hlt, hl, hpr, hs.trans (List.take_sublist_take_left (Nat.le_succ i)), hi⟩

def genOf (prs : List (Int × Value)) (k : Int) : Int := match valueAt prs k with
  | some (.int g _) => g
  | _ => 0
theorem genOf_is {prs : List (Int × Value)} (h : ∀ p ∈ prs, ∃ g t, p.2 = .int g t) : GenIs prs (genOf prs) := by
  intro k
  cases e : valueAt prs k with
  | none => right; exact ⟨rfl, by unfold genOf; rw [e]⟩
  | some v =>
    left
    obtain ⟨g, t, e2⟩ := h _ (mem_of_valueAt e)
    have e3 : v = .int g t := e2
    subst e3
    exact ⟨t, by unfold genOf; rw [e]⟩
theorem nodup_len : ∀ (l ns : List Int), l.Nodup → (∀ x ∈ l, x ∈ ns) → l.length ≤ ns.length
  | [], _, _, _ => Nat.zero_le _
  | a :: r, ns, hn, hs => by
    rw [List.nodup_cons] at hn
    have h1 : a ∈ ns := hs a (.head _)
    have h2 := nodup_len r (ns.erase a) hn.2 fun x hx => (List.mem_erase_of_ne (fun (e : x = a) => hn.1 (e ▸ hx))).mpr (hs x (.tail _ hx))
    have h3 := List.length_erase_of_mem h1
    have h4 := List.length_pos_of_mem h1
    rw [List.length_cons]; omega
def moreL (ns : List Int) (i : Nat) : List Int := ((List.range i).map fun (j : Nat) => (1 : Int) + (j : Int)).filter fun x => !decide (x ∈ ns)
theorem moreL_succ (ns : List Int) (i : Nat) : moreL ns (i + 1) = moreL ns i ++ (if (1 : Int) + (i : Int) ∈ ns then [] else [(1 : Int) + (i : Int)]) := by
  unfold moreL
  rw [List.range_succ, List.map_append, List.filter_append]
  congr 1
  by_cases h : (1 : Int) + (i : Int) ∈ ns <;> simp [h]
theorem moreL_len {ns : List Int} (h : ns.length ≤ 9) : 32 ≤ (moreL ns 41).length := by
  have hnd : ((List.range 41).map fun (j : Nat) => (1 : Int) + (j : Int)).Nodup := by decide
  have hlen : ((List.range 41).map fun (j : Nat) => (1 : Int) + (j : Int)).length = 41 := by simp
  have h1 : ∀ l : List Int, (l.filter fun x => !decide (x ∈ ns)).length + (l.filter fun x => decide (x ∈ ns)).length = l.length := by
    intro l
    induction l with
    | nil => rfl
    | cons a r ih =>
      by_cases ha : a ∈ ns
      · rw [List.filter_cons_of_neg (by simp [ha]), List.filter_cons_of_pos (by simp [ha]), List.length_cons, List.length_cons]; omega
      · rw [List.filter_cons_of_pos (by simp [ha]), List.filter_cons_of_neg (by simp [ha]), List.length_cons, List.length_cons]; omega
  have h2 := nodup_len _ ns (hnd.filter fun x => decide (x ∈ ns)) fun x hx => by simpa using (List.mem_filter.mp hx).2
  have h3 := h1 ((List.range 41).map fun (j : Nat) => (1 : Int) + (j : Int))
  unfold moreL
  omega
theorem moreL_mem {ns : List Int} {x : Int} (h : x ∈ moreL ns 41) : 1 ≤ x ∧ x ≤ 41 ∧ x ∉ ns := by
  unfold moreL at h
  rw [List.mem_filter, List.mem_map] at h
  obtain ⟨⟨j, hj, rfl⟩, h2⟩ := h
  rw [List.mem_range] at hj
  refine ⟨by omega, by omega, by simpa using h2⟩
theorem moreL_at {ns : List Int} (h : ns.length ≤ 9) {d : Int} (h0 : 0 ≤ d) (h1 : d < 30) : (moreL ns 41).getD d.toNat 0 ∈ moreL ns 41 := by
  have := moreL_len h
  rw [List.getD_eq_getElem?_getD, List.getElem?_eq_getElem (by omega)]
  exact List.getElem_mem _
end Mine
namespace Mine
structure Ahead (ns : List Int) (mo ah : Int) : Prop where
  at' : ah = 0 ∨ ah ∈ ns
  nonneg : 0 ≤ ah
  lt : ah < mo
  top : ∀ x ∈ ns, x < mo → x ≤ ah
theorem nxt_of {ns : List Int} {k o : Int} (h : NxtIs ns k o) : nxt ns k = o := (nxt_is ns k).unique h fun _ _ => Iff.rfl
theorem chain_insert {ns : List Int} {mo ah : Int} (gen : Int → Int) (hp : ∀ x ∈ ns, 1 ≤ x) (hm : 1 ≤ mo) (hn : mo ∉ ns) (ha : Ahead ns mo ah) :
    chainS (ns ++ [mo]) gen = fun j => if j = ah then some (mo, if ah = 0 then 65535 else gen ah) else if j = mo then some (nxt ns ah, gen mo) else chainS ns gen j := by
  obtain ⟨a1, a2, a3, a4⟩ := ha
  have hmem : ∀ x, x ∈ ns ++ [mo] ↔ x ∈ ns ∨ x = mo := fun x => by simp
  funext j
  by_cases h1 : j = ah
  · subst h1
    rw [if_pos rfl]
    unfold chainS
    have hj : j = 0 ∨ (0 < j ∧ j ∈ ns ++ [mo]) := by
      rcases a1 with e | e
      · exact .inl e
      · exact .inr ⟨by have := hp j e; omega, (hmem j).mpr (.inl e)⟩
    rw [if_pos hj]
    have : nxt (ns ++ [mo]) j = mo := nxt_of (.inr ⟨(hmem mo).mpr (.inr rfl), by omega, a3, fun x hx h0 hk => by
      rcases (hmem x).mp hx with e | e
      · rcases Int.lt_or_le x mo with q | q
        · have := a4 x e q; omega
        · exact q
      · omega⟩)
    rw [this]
  · rw [if_neg h1]
    by_cases h2 : j = mo
    · subst h2
      rw [if_pos rfl]
      unfold chainS
      rw [if_pos (.inr ⟨by omega, (hmem j).mpr (.inr rfl)⟩), if_neg (by omega)]
      have : nxt (ns ++ [j]) j = nxt ns ah := nxt_of (by
        rcases nxt_is ns ah with ⟨e, h⟩ | ⟨m1, m2, m3, m4⟩
        · rw [e]
          left
          refine ⟨rfl, fun x hx h0 => ?_⟩
          rcases (hmem x).mp hx with q | q
          · have := h x q h0; omega
          · omega
        · right
          have hne : nxt ns ah ≠ j := fun e => hn (e ▸ m1)
          refine ⟨(hmem _).mpr (.inl m1), m2, ?_, fun x hx h0 hk => ?_⟩
          · rcases Int.lt_or_le (nxt ns ah) j with q | q
            · have := a4 _ m1 q; omega
            · omega
          · rcases (hmem x).mp hx with q | q
            · exact m4 x q h0 (by omega)
            · omega)
      rw [this]
    · rw [if_neg h2]
      unfold chainS
      have hiff : (j = 0 ∨ (0 < j ∧ j ∈ ns ++ [mo])) ↔ (j = 0 ∨ (0 < j ∧ j ∈ ns)) := by
        rw [hmem]; simp [h2]
      by_cases h3 : j = 0 ∨ (0 < j ∧ j ∈ ns)
      · rw [if_pos (hiff.mpr h3), if_pos h3]
        have hj : j < mo → j < ah := by
          intro q
          rcases h3 with e | e
          · omega
          · have := a4 j e.2 q; omega
        have hah : j < ah → ah ∈ ns := by
          intro q
          rcases a1 with e | e
          · rcases h3 with e' | e' <;> omega
          · exact e
        have : nxt (ns ++ [mo]) j = nxt ns j := nxt_of (by
          rcases nxt_is ns j with ⟨e, h⟩ | ⟨m1, m2, m3, m4⟩
          · rw [e]
            left
            refine ⟨rfl, fun x hx h0 => ?_⟩
            rcases (hmem x).mp hx with q | q
            · exact h x q h0
            · rcases Int.lt_or_le j mo with r | r
              · have h4 := hj r
                have h5 := hah h4
                have h6 := hp ah h5
                have := h ah h5 (by omega)
                omega
              · omega
          · right
            refine ⟨(hmem _).mpr (.inl m1), m2, m3, fun x hx h0 hk => ?_⟩
            rcases (hmem x).mp hx with q | q
            · exact m4 x q h0 hk
            · rw [q] at hk
              have h4 := hj hk
              have h5 := hah h4
              have h6 := hp ah h5
              have := m4 ah h5 (by omega) h4
              omega)
        rw [this]
      · rw [if_neg (fun q => h3 (hiff.mp q)), if_neg h3]
/-- two lists that rise and have the same members are the same -/
theorem rise_unique : ∀ (as bs : List Int), as.Pairwise (· < ·) → bs.Pairwise (· < ·) → (∀ x, x ∈ as ↔ x ∈ bs) → as = bs
  | [], [], _, _, _ => rfl
  | [], b :: r, _, _, h => by have := (h b).mpr (.head _); cases this
  | a :: r, [], _, _, h => by have := (h a).mp (.head _); cases this
  | a :: r, b :: t, ha, hb, h => by
    rw [List.pairwise_cons] at ha hb
    have e : a = b := by
      rcases List.mem_cons.mp ((h a).mp (.head _)) with e | e
      · exact e
      · rcases List.mem_cons.mp ((h b).mpr (.head _)) with e' | e'
        · exact e'.symm
        · have h1 := hb.1 a e
          have h2 := ha.1 b e'
          omega
    subst e
    rw [rise_unique r t ha.2 hb.2 fun x => ?_]
    constructor
    · intro hx
      rcases List.mem_cons.mp ((h x).mp (.tail _ hx)) with e | e
      · have := ha.1 x hx; omega
      · exact e
    · intro hx
      rcases List.mem_cons.mp ((h x).mpr (.tail _ hx)) with e | e
      · have := hb.1 x hx; omega
      · exact e
theorem strict_of {ss : List Int} (h : ss.Pairwise (· ≤ ·)) (hn : ss.Nodup) : ss.Pairwise (· < ·) := by
  have h2 : ss.Pairwise (· ≠ ·) := hn
  exact List.Pairwise.imp₂ (fun hle hne => by omega) h h2
end Mine
namespace Mine
section
variable {prog : Program} {w : World} {A : Around} {E : Value → Shared → Prop} {s : Shared} {h₀ : Heap} {L d a b : Addr} {m : Str → Option Value} {news : List (Addr × Obj)} {o oa ob : Obj} {kvs ka kb : List (Int × Value)} {Q : Value → Shared → Prop}
theorem copy_news (hbig : h₀.NoLimit) (F : Fr h₀ L s.heap m) (N : News h₀ L s.heap news) (hm : (d, o) ∈ news) (hd : o.IsDictOf (PySem.intKind prog w) kvs) (lo : (d == sysModules) = false) (hsz : kvs.length ≤ 1000)
    (h : ∀ D o' h', Fr h₀ L h' m → News h₀ L h' ((D, o') :: news) → (∀ q ∈ news, q.1 < D) → (∀ q ∈ news, q.1 ≠ D) → (D == sysModules) = false → o'.IsDictOf (PySem.intKind prog w) kvs → Q (.ref D) { s with heap := h' }) :
    wpAny (model prog w) A (call (.type "dict") [.ref d]) Q E s := by
  refine kt_call_dict lo (kda_dict N hm hd) (by rw [PySem.sizeLine_eq]; omega) fun h' hm' hs => ?_
  obtain ⟨o', ho', hd'⟩ := Heap.dictOf_iff.mp hm'
  have N1 := News.push F N { cls := .type "dict", data := .dict #[] }
  have F' : Fr h₀ L h' m := (F.push _).change hs (N1 _ (.head _)).2.1 (N1.fresh (.head _))
  exact h _ o' h' F' (N1.setHead N.apart hs ho') (fun q hq => Heap.lt_size (N q hq).1) (fun q hq => Nat.ne_of_lt (Heap.lt_size (N q hq).1)) (F.notModules (modules_low hbig)) hd'
theorem keys_len {f : Int → Option (Int × Int)} {ta tb : List (Addr × Obj)} (na : (ka.map (·.1)).Nodup) (nb : (kb.map (·.1)).Nodup) (ha : TupsAre ta ka f) (hb : TupsAre tb kb f) : ka.length = kb.length := by
  have key : ∀ {kc kd : List (Int × Value)} {tc td : List (Addr × Obj)}, TupsAre tc kc f → TupsAre td kd f → ∀ x ∈ kc.map (·.1), x ∈ kd.map (·.1) := by
    intro kc kd tc td hc hd x hx
    obtain ⟨v, hv⟩ := valueAt_mem hx
    have h1 := hc x
    have h2 := hd x
    cases e : f x with
    | none => rw [e] at h1; rw [hv] at h1; cases h1
    | some y =>
      rw [e] at h2
      obtain ⟨v', hv', _⟩ := h2
      exact List.mem_map.mpr ⟨_, mem_of_valueAt hv', rfl⟩
  have h1 := nodup_len _ _ na (key ha hb)
  have h2 := nodup_len _ _ nb (key hb ha)
  simp only [List.length_map] at h1 h2
  omega
theorem tup_reads {v : Value} {e : Int × Int} (N : News h₀ L s.heap news) (h : TupAt news v e) : Reads s.heap v (.tuple [.str "free", .int e.1, .int e.2]) [] := by
  obtain ⟨x, t1, t2, t3, n, rfl, hm⟩ := h
  exact .tuple (N _ hm).1 rfl rfl (.cons (as := []) (bs := []) (.str _ _) (.cons (as := []) (bs := []) (.int _ _) (.cons (as := []) (bs := []) (.int _ _) .nil)))
theorem tup_same (e : Int × Int) : PyData.eqv (.tuple [.str "free", .int e.1, .int e.2]) (.tuple [.str "free", .int e.1, .int e.2]) = true := by
  rw [← SeqAt.same_eq_eqv _ _ (by rfl)]
  simp [PySem.Spec.same, PySem.Spec.sameAll]
theorem tup_lay (e : Int × Int) : (PyData.tuple [.str "free", .int e.1, .int e.2]).canLay0 = true := by
  simp only [PyData.canLay0, PyData.canLayAll0, Bool.and_true]
  decide +kernel
theorem tup_depth (e : Int × Int) : (PyData.tuple [.str "free", .int e.1, .int e.2]).depth ≤ 64 := by
  simp [PyData.depth, PyData.depthAll]
theorem hits_tups {f : Int → Option (Int × Int)} (hu : A.units + 64 < cLine) (N : News h₀ L s.heap news) (hb : TupsAre news kb f) : ∀ kc : List (Int × Value), (∀ p ∈ kc, ∃ e, f p.1 = some e ∧ TupAt news p.2 e) → KeqHits A s kb kc true
  | [], _ => .nil
  | (k, v) :: r, h => by
    obtain ⟨e, he, ht⟩ := h (k, v) (.head _)
    have hk := hb k
    dsimp only at he ht
    rw [he] at hk
    obtain ⟨y, hy, ty⟩ := hk
    have h1 : SeqAt.EqAt A s v y true := by
      have := SeqAt.eqAt_reads _ _ A s v y _ _ (tup_reads N ht) (tup_reads N ty) (tup_lay e) (tup_lay e) (by have := tup_depth e; omega)
      rw [tup_same] at this
      exact this
    exact .hit hy h1 (hits_tups hu N hb r fun p hp => h p (.tail _ hp))
theorem nodup_dict (hd : o.IsDictOf (PySem.intKind prog w) kvs) : (kvs.map (·.1)).Nodup := by obtain ⟨_, _, _, _, _, _, hn⟩ := hd; exact hn
theorem valueAt_nodup : ∀ {kvs : List (Int × Value)}, (kvs.map (·.1)).Nodup → ∀ p ∈ kvs, valueAt kvs p.1 = some p.2
  | q :: r, hn, p, hp => by
    rw [List.map_cons, List.nodup_cons] at hn
    unfold valueAt
    rw [List.find?_cons]
    by_cases e : q.1 = p.1
    · rcases List.mem_cons.mp hp with rfl | hp
      · simp
      · exact absurd (List.mem_map.mpr ⟨p, hp, e.symm⟩) hn.1
    · rcases List.mem_cons.mp hp with rfl | hp
      · exact absurd rfl e
      · have := valueAt_nodup hn.2 p hp
        unfold valueAt at this
        simp only [e, decide_false]
        exact this
theorem tups_mem {f : Int → Option (Int × Int)} (hn : (ka.map (·.1)).Nodup) (ha : TupsAre news ka f) : ∀ p ∈ ka, ∃ e, f p.1 = some e ∧ TupAt news p.2 e := by
  intro p hp
  have hv := valueAt_nodup hn p hp
  have := ha p.1
  cases e : f p.1 with
  | none => rw [e] at this; rw [hv] at this; cases this
  | some y =>
    rw [e] at this
    obtain ⟨v', hv', ht⟩ := this
    rw [hv] at hv'; cases hv'
    exact ⟨y, rfl, ht⟩
theorem TupsAre.mono {f : Int → Option (Int × Int)} {news' : List (Addr × Obj)} (h : TupsAre news ka f) (hs : ∀ p ∈ news, p ∈ news') : TupsAre news' ka f := by
  intro k
  have := h k
  cases e : f k with
  | none => rw [e] at this; exact this
  | some y =>
    rw [e] at this
    obtain ⟨v, hv, ht⟩ := this
    exact ⟨v, hv, ht.mono hs⟩
theorem ne_tups {f : Int → Option (Int × Int)} (N : News h₀ L s.heap news) (pa : (a, oa) ∈ news) (pb : (b, ob) ∈ news) (da : oa.IsDictOf (PySem.intKind prog w) ka) (db : ob.IsDictOf (PySem.intKind prog w) kb) (la : (a == sysModules) = false) (lb : (b == sysModules) = false)
    (hu : A.units < cLine) (hu2 : A.in1.units + 64 < cLine) (ha : TupsAre news ka f) (hb : TupsAre news kb f) (h : Q (.bool false) s) : wpAny (model prog w) A (compareOp .NotEq (.ref a) (.ref b)) Q E s :=
  kne_pairs N pa pb da db la lb (keys_len (nodup_dict da) (nodup_dict db) ha hb) hu (hits_tups hu2 N hb ka (tups_mem (nodup_dict da) ha)) h
theorem hits_self (hn : (kb.map (·.1)).Nodup) : ∀ kc : List (Int × Value), (∀ p ∈ kc, p ∈ kb) → KeqHits A s kb kc true
  | [], _ => .nil
  | (k, v) :: r, h => .hit (valueAt_nodup hn (k, v) (h _ (.head _))) (SeqAt.EqAt.same _) (hits_self hn r fun p hp => h p (.tail _ hp))
theorem ne_self (N : News h₀ L s.heap news) (pa : (a, oa) ∈ news) (pb : (b, ob) ∈ news) (da : oa.IsDictOf (PySem.intKind prog w) ka) (db : ob.IsDictOf (PySem.intKind prog w) ka) (la : (a == sysModules) = false) (lb : (b == sysModules) = false)
    (hu : A.units < cLine) (h : Q (.bool false) s) : wpAny (model prog w) A (compareOp .NotEq (.ref a) (.ref b)) Q E s :=
  kne_pairs N pa pb da db la lb rfl hu (hits_self (nodup_dict db) ka fun _ hp => hp) h
end
theorem gen_put {kvs : List (Int × Value)} {gen : Int → Int} {k g : Int} {t : Tok} (h : GenIs kvs gen) : GenIs (stored kvs k (.int g t)) (fun j => if j = k then g else gen j) := by
  intro j
  rw [valueAt_stored]
  by_cases hj : j = k
  · simp only [if_pos hj]; exact .inl ⟨t, rfl⟩
  · simp only [if_neg hj]; exact h j
theorem TupsAre.put {news : List (Addr × Obj)} {kvs : List (Int × Value)} {f : Int → Option (Int × Int)} {k : Int} {v : Value} {e : Int × Int} (h : TupsAre news kvs f) (ht : TupAt news v e) : TupsAre news (stored kvs k v) (fun j => if j = k then some e else f j) := by
  intro j
  rw [valueAt_stored]
  by_cases hj : j = k
  · simp only [if_pos hj]; exact ⟨v, rfl, ht⟩
  · simp only [if_neg hj]; exact h j
end Mine
namespace Mine
section
variable {w : World} {mean : ExcName → Option Value} {mg mb : Str → Option Value} {cn : Str} {cs : Scope} {a : Addr} {ccd : Value} {cl : List (Str × Addr)} {base h₀ : Heap} {L : Addr} {m : Str → Option Value} {s : Shared} {Q E : Value → Shared → Prop} {news : List (Addr × Obj)}
theorem ents_mono {sub : List (Addr × Obj)} {kvs : List (Int × Value)} {f : Int → Option (Int × Int)} {P : Params} (hE : EntsAre P sub kvs f) (hs : ∀ p ∈ sub, p ∈ news) : EntsAre P news kvs f := by
  intro k
  have := hE k
  cases q : f k with
  | none => rw [q] at this; exact this
  | some x =>
    rw [q] at this
    obtain ⟨v, hv, hx⟩ := this
    exact ⟨v, hv, hx.mono hs⟩
theorem cof_news {e : Addr} {eo : Obj} {kvs : List (Int × Value)} {ns ps : List Int} {gen : Int → Int} {sub : List (Addr × Obj)}
    (B : Below callerA base [] h₀) (F : Fr h₀ L s.heap m) (X : (Mine.hd.heap_39 w.params).In h₀) (N : News h₀ L s.heap news)
    (T : Top Mine.hd.view_39 (looseW Mine.hd.view_39 [Str.ofString "PaperError"]) mean mg mb h₀) (hkf : cs.kind = .function)
    (he : (e, eo) ∈ news) (hd : eo.IsDictOf (PySem.intKind PySem.Challenge.rw_og0121_01.row.prog w) kvs) (hes : (e == sysModules) = false) (hE : EntsAre w.params sub kvs (chainS ns gen)) (hsub : ∀ p ∈ sub, p ∈ news) (hps : Rising ns ps) (hlen : ps.length ≤ 12)
    (h : ∀ D vs c h' tk', Fr h₀ L h' m → News h₀ L h' ((D, lstO vs c) :: news) → IntsAre vs ps → (∀ q ∈ news, q.1 < D) → Q (.ref D) { s with heap := h', toks := tk' }) :
    wpAny (model PySem.Challenge.rw_og0121_01.row.prog w) (callerA.deeper (envX cn cs L a ccd cl)) (call (.ref 99) [.ref e]) Q E s := by
  refine cof_ok w e eo kvs ns ps gen news he hd hes (ents_mono hE hsub) hps hlen mean mg mb cn cs a ccd cl base h₀ L m s Q E B F X N T hkf ?_
  rintro _ _ h' tk' F' N' ⟨D, vs, c, rfl, rfl, hi, hl⟩
  exact h D vs c h' tk' F' N' hi hl
theorem nums_news {e : Addr} {eo : Obj} {kvs : List (Int × Value)} {f : Int → Option (Int × Int)} {sub : List (Addr × Obj)}
    (B : Below callerA base [] h₀) (F : Fr h₀ L s.heap m) (X : (Mine.hd.heap_39 w.params).In h₀) (N : News h₀ L s.heap news)
    (T : Top Mine.hd.view_39 (looseW Mine.hd.view_39 [Str.ofString "PaperError"]) mean mg mb h₀) (hkf : cs.kind = .function)
    (he : (e, eo) ∈ news) (hd : eo.IsDictOf (PySem.intKind PySem.Challenge.rw_og0121_01.row.prog w) kvs) (hlen : kvs.length ≤ 13) (hes : (e == sysModules) = false) (hE : EntsAre w.params sub kvs f) (hsub : ∀ p ∈ sub, p ∈ news)
    (h : ∀ D vs c (ks : List Int) h' tk', Fr h₀ L h' m → News h₀ L h' ((D, lstO vs c) :: news) → IntsAre vs (ks.filter fun x => decide (0 < x)) → ks.Perm (kvs.map (·.1)) → ks.Pairwise (· ≤ ·) → Q (.ref D) { s with heap := h', toks := tk' }) :
    wpAny (model PySem.Challenge.rw_og0121_01.row.prog w) (callerA.deeper (envX cn cs L a ccd cl)) (call (.ref 92) [.ref e]) Q E s := by
  refine nums_ok w e eo kvs f news he hd hlen hes (ents_mono hE hsub) mean mg mb cn cs a ccd cl base h₀ L m s Q E B F X N T hkf ?_
  rintro _ _ h' tk' F' N' ⟨D, vs, c, ks, rfl, rfl, hi, hp, ho⟩
  exact h D vs c ks h' tk' F' N' hi hp ho
end
theorem rising_of {ns ss : List Int} (hp : ss.Perm ns) (ho : ss.Pairwise (· ≤ ·)) (hn : ns.Nodup) (h0 : ∀ x ∈ ns, 0 < x) : Rising ns ss :=
  ⟨strict_of ho (hp.nodup_iff.mpr hn), fun x => by rw [hp.mem_iff]; exact ⟨fun h => ⟨h0 x h, h⟩, fun h => h.2⟩⟩
theorem rising_eq {ns ps qs : List Int} (h : Rising ns ps) (h' : Rising ns qs) : ps = qs := rise_unique _ _ h.1 h'.1 fun x => by rw [h.2, h'.2]
theorem rising_some {ns : List Int} (hn : ns.Nodup) (h0 : ∀ x ∈ ns, 0 < x) : ∃ ps, Rising ns ps ∧ ps.length = ns.length :=
  ⟨ns.mergeSort (fun a b => decide (a ≤ b)), rising_of (List.mergeSort_perm _ _) (by
    have := List.pairwise_mergeSort (le := fun a b : Int => decide (a ≤ b)) (fun a b c h1 h2 => by simp at *; omega) (fun a b => by simp; omega) ns
    simpa using this) hn h0, List.length_mergeSort _⟩

theorem key_mem {P : Params} {sub : List (Addr × Obj)} {kvs : List (Int × Value)} {ms : List Int} {gen : Int → Int} (hE : EntsAre P sub kvs (chainS ms gen)) (k : Int) : k ∈ kvs.map (·.1) ↔ (k = 0 ∨ (0 < k ∧ k ∈ ms)) := by
  have h := hE k
  unfold chainS at h
  by_cases hk : k = 0 ∨ (0 < k ∧ k ∈ ms)
  · rw [if_pos hk] at h
    obtain ⟨v, hv, _⟩ := h
    exact ⟨fun _ => hk, fun _ => List.mem_map.mpr ⟨_, mem_of_valueAt hv, rfl⟩⟩
  · rw [if_neg hk] at h
    exact ⟨fun hm => absurd hm (not_mem_of_valueAt h), fun h' => absurd h' hk⟩
theorem keys_rise {P : Params} {sub : List (Addr × Obj)} {kvs : List (Int × Value)} {ms ks : List Int} {gen : Int → Int} (hE : EntsAre P sub kvs (chainS ms gen)) (hn : (kvs.map (·.1)).Nodup) (hp : ks.Perm (kvs.map (·.1))) (ho : ks.Pairwise (· ≤ ·)) :
    Rising ms (ks.filter fun x => decide (0 < x)) := by
  refine ⟨(strict_of ho (hp.nodup_iff.mpr hn)).filter _, fun x => ?_⟩
  rw [List.mem_filter, hp.mem_iff, key_mem hE]
  constructor
  · rintro ⟨h, h2⟩
    have h2 : 0 < x := by simpa using h2
    rcases h with h | h
    · omega
    · exact h
  · intro h
    exact ⟨.inr h, by simpa using h.1⟩
theorem keys_zero {P : Params} {sub : List (Addr × Obj)} {kvs : List (Int × Value)} {ms ks : List Int} {gen : Int → Int} (hE : EntsAre P sub kvs (chainS ms gen)) (hn : (kvs.map (·.1)).Nodup) (hp : ks.Perm (kvs.map (·.1))) (ho : ks.Pairwise (· ≤ ·)) {ps : List Int} (hps : Rising ms ps) : ks = 0 :: ps := by
  refine rise_unique _ _ (strict_of ho (hp.nodup_iff.mpr hn)) ?_ fun x => ?_
  · rw [List.pairwise_cons]
    exact ⟨fun x hx => ((hps.2 x).mp hx).1, hps.1⟩
  · rw [hp.mem_iff, key_mem hE, List.mem_cons, hps.2]
end Mine
namespace Mine
theorem twos_of {ms ps : List Int} {n : Nat} (hps : Rising ms ps) (hl : ps.length = n) : (0 :: ps).map (fun k : Int => if k = 0 then (65535 : Int) else 0) = 65535 :: List.replicate n 0 := by
  rw [List.map_cons, if_pos rfl]
  congr 1
  refine List.eq_replicate_iff.mpr ⟨by rw [List.length_map, hl], fun b hb => ?_⟩
  obtain ⟨x, hx, rfl⟩ := List.mem_map.mp hb
  have := ((hps.2 x).mp hx).1
  rw [if_neg (by omega)]
end Mine
namespace Mine
theorem fill_L3 : (fun (_ : OpenLaw) (_ : Params → Frag) => True) PySem.Challenge.rw_og0121_01 Mine.hd.heap_39 := by
  k_fill
  trivial
local macro_rules | `(tactic| k_all) => `(tactic| assumption)
local macro_rules | `(tactic| k_mem) => `(tactic| assumption)
local macro_rules | `(tactic| is_list) => `(tactic| exact News.isList (by k_asm) (by k_mem))
local macro_rules | `(tactic| l_fact) => `(tactic| first | omega | ((try simp only [List.length_append, List.length_cons, List.length_nil, List.length_map] at *); omega))
local macro_rules | `(tactic| walk_at "call builtin:sorted") => `(tactic| (k_here; (with_reducible show wpAny _ _ (call (Value.builtin _) [Value.ref _]) _ _ _); k_dflt (refine' sorted_news ?F ?N ?m ?i ?z ?_; (case F => k_asm); (case N => k_asm); (case m => k_mem); (case i => assumption); (case z => l_fact); k_whole); intro D' vs' ns' c' h' F' N' l1 i' p' o'; (try k_lt l1); (have pl' := p'.length_eq); (try k_sweep)))
local macro_rules | `(tactic| walk_at "binaryOp Add ref ref") => `(tactic| (k_here; (try k_made); k_dflt (refine' add_news ?F ?N ?a ?b ?i ?j ?z ?_; (case F => k_asm); (case N => k_asm); (case a => k_mem); (case b => k_mem); (case i => l_ints); (case j => l_ints); (case z => l_fact); k_whole); intro D' ws' h' F' N' l1 hI'; (try k_lt l1); (try k_sweep); (try dsimp only)))
local macro_rules | `(tactic| walk_at "call builtin:len") => `(tactic| (k_here; (with_reducible show wpAny _ _ (call (Value.builtin _) [Value.ref _]) _ _ _); k_dflt (refine' len_news ?N ?m ?i ?z ?_; (case N => k_asm); (case m => k_mem); (case i => l_ints); (case z => l_fact); k_whole)))
local macro_rules | `(tactic| walk_at "subscriptTail") => `(tactic| (k_here; (with_reducible show wpAny _ _ (subscriptTail _ _ (Value.ref _) (Value.int _ _)) _ _ _); k_dflt (refine' item_news ?N ?m ?i ?a ?b ?z ?_ ?s; (case N => k_asm); (case m => k_mem); (case i => l_ints); (case a => l_fact); (case b => l_fact); (case z => l_fact); (case s => with_unfolding_all rfl); k_whole); intro t'))
local macro_rules | `(tactic| walk_at "compareOp NotIn int ref") => `(tactic| (k_here; k_dflt (refine' notin_news ?N ?m ?i ?_; (case N => k_asm); (case m => k_mem); (case i => l_ints); k_whole)))
local macro_rules | `(tactic| walk_at "call builtin:dict.get") => `(tactic| (k_here; k_dflt (first
  | (refine' get_gen ?N ?m ?d ?g ?o ?_; (case N => k_asm); (case m => k_mem); (case d => assumption); (case g => assumption); (case o => assumption); k_whole; intro t')
  | (refine' get_news ?N ?m ?d ?o ?_; (case N => k_asm); (case m => k_mem); (case d => assumption); (case o => assumption); k_whole)
  | (refine' get1_news ?N ?m ?d ?o ?_; (case N => k_asm); (case m => k_mem); (case d => assumption); (case o => assumption); k_whole))))
local macro_rules | `(tactic| walk_at "getMethod ref") => `(tactic| (k_here; k_dflt (refine' getMethod_news ?N ?m ?d ?_; (case N => k_asm); (case m => k_mem); (case d => assumption); k_whole)))
local macro_rules | `(tactic| walk_at "subscriptTail") => `(tactic| (k_here; (with_reducible show wpAny _ _ (subscriptTail _ _ (Value.ref _) (Value.int _ _)) _ _ _); k_dflt (refine' item_dict_news ?N ?m ?d ?l ?_ ?s; (case N => k_asm); (case m => k_mem); (case d => assumption); (case l => assumption); (case s => with_unfolding_all rfl); k_whole)))
local macro_rules | `(tactic| walk_at "setItem ref int") => `(tactic| (k_here; k_dflt (refine' set_news ?F ?N ?U ?d ?z ?_; (case F => k_asm); (case N => k_asm); (case U => k_updF); (case d => assumption); (case z => l_fact); k_whole); intro h' o' F' N' hd'; (try dsimp only at N'); (try k_sweep)))
local macro_rules | `(tactic| lcg_sub) => `(tactic| (intro p9 hp9; k_mem))
local macro_rules | `(tactic| walk_at "call builtin:sorted") => `(tactic| (k_here; (with_reducible show wpAny _ _ (call (Value.builtin _) [Value.ref _]) _ _ _); k_dflt (refine' sorted_dict_news ?h ?F ?N ?m ?d ?o ?z ?_; (case h => rfl); (case F => k_asm); (case N => k_asm); (case m => k_mem); (case d => assumption); (case o => assumption); (case z => l_fact); k_whole); intro D' vs' ns' c' h' tk' F' N' l1 i' p' o'; (try k_lt l1); (have pl' := p'.length_eq); (try k_sweep)))
local macro_rules | `(tactic| walk_at "call builtin:dict.get") => `(tactic| (k_here; k_dflt (refine' get1_hit ?N ?m ?d ?o ?l ?_; (case N => k_asm); (case m => k_mem); (case d => assumption); (case o => assumption); (case l => assumption); k_whole)))
local macro_rules | `(tactic| walk_at "compareOp In int ref") => `(tactic| (k_here; k_dflt (refine' in_news ?N ?m ?d ?o ?b ?_; (case N => k_asm); (case m => k_mem); (case d => assumption); (case o => assumption); (case b => assumption); k_whole)))
local macro_rules | `(tactic| walk_at "call builtin:list.append") => `(tactic| (k_here; k_dflt (refine' append_news ?F ?N ?U ?z ?_; (case F => k_asm); (case N => k_asm); (case U => k_upd); (case z => l_fact); k_whole); intro h' F' N'; (try dsimp only at N'); (try k_sweep)))

local macro_rules | `(tactic| k_ne) => `(tactic| (first | assumption | (refine Ne.symm ?_; assumption)))
local macro_rules | `(tactic| walk_at "call ref") => `(tactic| (k_here; k_dflt (refine' pen_news ?B ?F ?X ?N ?T ?k ?i ?l ?hL ?_; (case B => assumption); (case F => k_asm); (case X => assumption); (case N => k_asm); (case T => assumption); (case k => exact rfl); (case i => assumption); (case l => assumption); (case hL => assumption); k_whole); intro P' q' o1' o2' h' tk' F' N' hp' l1 l2' l3' nPQ'; (try k_lt l2'); (try simp only [List.forall_mem_cons, List.not_mem_nil, false_implies, implies_true, and_true] at l3'); (try k_sweep); (try dsimp only)))
local macro_rules | `(tactic| walk_at "call ref") => `(tactic| (k_here; k_dflt (refine' draw_news ?B ?F ?X ?N ?T ?k ?p ?k1 ?k2 ?ne ?U1 ?U2 ?_; (case B => assumption); (case F => k_asm); (case X => assumption); (case N => k_asm); (case T => assumption); (case k => exact rfl); (case p => assumption); (case k1 => first | decide | omega); (case k2 => first | decide | omega); (case ne => assumption); (case U1 => k_updF); (case U2 => (intro _; k_updF));  k_whole); intro d' td' o1' o2' h' tk' F' N' hp' dl' du'; (try dsimp only at N'); (try k_sweep); (try dsimp only)))
local macro_rules | `(tactic| walk_at "storeName") => `(tactic| (k_here; k_dflt (first
  | (refine' storeX_L ?F ?N ?_ ?a ?b; (case F => k_asm); (case N => k_asm); (case a => rfl); (case b => rfl); k_whole; intro h' F' N'; (try k_sweep); (try dsimp only))
  | (refine' storeX_C ?F ?N ?c ?U ?d ?_ ?a ?b; (case a => rfl); (case b => rfl); (case F => k_asm); (case N => k_asm); (case c => rfl); (case U => k_updF); (case d => k_asm); k_whole; intro h' o' F' N' d'; (try dsimp only at N'); (try k_sweep); (try dsimp only)))))

local macro_rules | `(tactic| walk_at "subscriptTail Name Slice ref ref") => `(tactic| (k_here; (with_reducible show wpAny _ _ (subscriptTail _ (PySem.Expr.Slice _ _ none _) (Value.ref _) (Value.ref _)) _ _ _); k_dflt (refine' slice_news ?F ?N ?l ?i ?p ?q ?m ?z ?_ ?s ?t; (case F => k_asm); (case N => k_asm); (case l => k_mem); (case i => assumption); (case p => kmk_part); (case q => kmk_part); (case m => first | exact kmk_from (by assumption) (by assumption) | exact kmk_upto (by assumption) (by assumption)); (case s => with_unfolding_all rfl); (case t => kmk_pure); (case z => l_fact)); intro D' ws' h' F' N' l1 hI' hL'; (try k_lt l1); (try k_sweep); (try dsimp only)))
local macro_rules | `(tactic| k_mem) => `(tactic| kcf_m)
local macro_rules | `(tactic| walk_at "call type:dict") => `(tactic| (k_here; k_dflt (refine' copy_news ?b ?F ?N ?m ?d ?o ?z ?_; (case b => exact Top.nolimit (by assumption)); (case F => k_asm); (case N => k_asm); (case m => k_mem); (case d => assumption); (case o => assumption); (case z => l_fact); k_whole); intro D' o' h' F' N' l1 lne' lo' hd'; (try k_sweep); (try dsimp only)))
local macro_rules | `(tactic| walk_at "call ref") => `(tactic| (k_here; k_dflt (refine' chain_news ?B ?F ?X ?N ?T ?k ?l ?i ?z ?g ?o ?gg ?gs ?_; (case B => assumption); (case F => k_asm); (case X => assumption); (case N => k_asm); (case T => assumption); (case k => exact rfl); (case l => k_mem); (case i => first | exact IntsAre.nil | assumption); (case z => l_fact); (case g => k_mem); (case o => assumption); (case gg => assumption); (case gs => assumption); k_whole); intro d' o' tl' kvs' h' tk' F' N' lo' hd' hc' l1 l2' hE'; (try k_sweep); (try dsimp only)))
local macro_rules | `(tactic| walk_at "call ref") => `(tactic| (k_here; k_dflt (refine' told_news ?B ?F ?X ?N ?T ?k ?l ?o ?c ?gs ?E ?s ?_; (case B => assumption); (case F => k_asm); (case X => assumption); (case N => k_asm); (case T => assumption); (case k => exact rfl); (case l => k_mem); (case o => assumption); (case c => assumption); (case gs => assumption); (case E => assumption); (case s => (intro p9 hp9; kcf_m)); k_whole); intro d' o' tl' kvs' h' tk' F' N' lo' hd' hc' l1 l2' l3' hE'; (try k_sweep); (try dsimp only)))
local macro_rules | `(tactic| walk_at "call ref") => `(tactic| (k_here; k_dflt (refine' cof_news ?B ?F ?X ?N ?T ?k ?l ?o ?gs ?E ?s ?r ?z ?_; (case B => assumption); (case F => k_asm); (case X => assumption); (case N => k_asm); (case T => assumption); (case k => exact rfl); (case l => k_mem); (case o => assumption); (case gs => assumption); (case E => assumption); (case s => (intro p9 hp9; kcf_m)); (case r => assumption); (case z => l_fact); k_whole); intro d' vs' c' h' tk' F' N' hi' l1; (try k_sweep); (try dsimp only)))
local macro_rules | `(tactic| walk_at "call ref") => `(tactic| (k_here; k_dflt (refine' nums_news ?B ?F ?X ?N ?T ?k ?l ?o ?c ?gs ?E ?s ?_; (case B => assumption); (case F => k_asm); (case X => assumption); (case N => k_asm); (case T => assumption); (case k => exact rfl); (case l => k_mem); (case o => assumption); (case c => assumption); (case gs => assumption); (case E => assumption); (case s => (intro p9 hp9; kcf_m)); k_whole); intro d' vs' c' ks' h' tk' F' N' hi' hp' ho'; (try k_sweep); (try dsimp only)))
local macro_rules | `(tactic| walk_at "pyIter ref") => `(tactic| (k_here; (with_reducible show wpAny _ _ _ (fun it s₂ => LoopAtV _ _ _ _ _ _ _ _ _ it s₂) _ _); refine stop ?_))
local macro_rules | `(tactic| walk_at "eval ListComp") => `(tactic| (k_here; k_dflt (refine LCt.ListComp_T (F₀ := by k_asm) (by with_unfolding_all rfl) (by decide) (by rfl) (by decide) (by rfl) ?_)))
local macro_rules | `(tactic| walk_at "eval ListComp") => `(tactic| ((with_reducible show wpAny _ _ (eval (PySem.Expr.ListComp (PySem.Expr.Attribute ..) ..) _) _ _ _); refine stop ?_))
local macro_rules | `(tactic| walk_at "CompSrcT") => `(tactic| (refine stop ?_))
local macro_rules | `(tactic| walk_at "CompSrc") => `(tactic| (refine stop ?_))
local macro_rules | `(tactic| walk_at "call ref") => `(tactic| ((with_reducible show wpAny _ _ (call _ [_, Value.int 30 _]) _ _ _); refine stop ?_))
local macro_rules | `(tactic| walk_at "call builtin:max") => `(tactic| (refine stop ?_))
local macro_rules | `(tactic| walk_at "compareOp NotEq ref ref") => `(tactic| (refine stop ?_))
local macro_rules | `(tactic| walk_at "eval Dict") => `(tactic| ((with_reducible show wpAny _ _ (eval (PySem.Expr.Dict (_ :: _) _ _) _) _ _ _); refine stop ?_))
local macro_rules | `(tactic| walk_at "storeName") => `(tactic| ((with_reducible show wpAny _ _ (storeName _ (Str.ofString "entries") _) _ _ _); refine stop ?_))
local macro_rules | `(tactic| walk_at "call builtin:sorted") => `(tactic| (k_here; (with_reducible show wpAny _ _ (call (Value.builtin _) [Value.ref _]) (LCg.CompSrc _ _ _ _ _ _ _ _ _ _ _ _) _ _); (refine stop ?_)))
local macro_rules | `(tactic| walk_at "binaryOp Mult ref int") => `(tactic| (refine stop ?_))
local macro_rules | `(tactic| walk_at "compareOp Eq ref ref") => `(tactic| (refine stop ?_))
section
local macro_rules | `(tactic| walk_at "exec For Name Call cons nil") => `(tactic| (refine stop ?_))
theorem law_walk : PySem.Challenge.rw_og0121_01.Holds := by
  w_top off
  refine hd ?_
  w_strict (k_go0; (all_goals try k_fold))
  rename_i w s₀ s mg mb G Y fa o pm doc ho hg KX X V GL T B TE TW d0 o0 M d1 d2 hcd script hs hlay0 hL0 hr1 hl2 a8 a7 sl vs a4 hL ra w1 r0 hI hr hlen hT K0 hD h₁ tk₁ F0 c4 c3 c2 c1 q4 q3 q2 q1 N0 X0
  replace F0 := fr_congr F0 (m' := fun y => if y = Str.ofString "script" then some (.ref sl) else none) (by funext x; rfl)
  replace q1 : c1.data = .cell none := q1
  replace q2 : c2.data = .cell none := q2
  replace q3 : c3.data = .cell none := q3
  replace q4 : c4.data = .cell none := q4
  refine wpAny_mono (Q := fun f s' => f = .ret (.bool true) ∧ ∃ h tk m, s' = { s with heap := h, toks := tk } ∧ Fr s.heap s.heap.objs.size h m) (E := fun _ _ => False) ?_ (fun f s' hq => ?_) (fun e s' h => h.elim)
  rotate_left
  · obtain ⟨rfl, h, tk, m, rfl, F⟩ := hq
    (show GoodW _ _ _ _ _ (.ok (.ret _)) _; close_w)
  clear qk ek G Y ho hg V GL TE TW M hcd hs hlay0 hL0 hr1 hl2 w1 r0 hr hT ra
  (try clear X0)
  (try clear hD)
  (try clear X)
  (try clear B)
  (try clear ho)
  generalize s.heap.objs.size = L at *
  have hlen2 : script.length ≤ 63 := by omega
  k_steps
  rename_i P q o1 o2 h6 tk6 hp l1 nPQ l2 l3 h5 oP dP nl h4 l4 h3 oN F' N' dN
  refine Stop.mk ?_
  refine wpAny_mono (Q := fun f s' => f = .next ∧ St3 s L sl s') ?_ (fun f s' hq => ?_) (fun e s' h => h)
  · rename Fr _ _ _ _ => lF'
    with_unfolding_all refine' For_invVF lF' ?zk1 ?zk2 ?_
    (case zk1 => exact rfl)
    (case zk2 => exact rfl)
    k_whole
    k_steps
    rename IsRange _ _ _ _ _ _ _ _ => hR
    rename Fr _ _ _ _ => F2
    rename News _ _ _ _ => N2
    rename PenIs _ _ _ => hp2
    rename Int => d
    rename 0 ≤ d => d0'
    rename d < 10 => d9'
    have hG : Ground3 L P q oP c3 c4 := ⟨l1, l2.1, l3, dP, q3, q4⟩
    refine Stop.mk ?_
    refine range_grow (n := d.toNat) (lawJ s.heap L sl P q oP c3 c4) rfl hR ?_ ?_ F2 N2 ⟨none, none, nl, _, _, oN, [], [], 0, ?_, ⟨rfl, hp2, .nil, List.nodup_nil, (fun x hx => nomatch hx), Nat.zero_le _, dN, ⟨l4.1, l4.2.1, l4.2.2.1⟩⟩⟩ ?_ ?_
    · exact small_one (by omega) (by omega) (by omega) (by omega)
    · rw [show d = ((d.toNat : Nat) : Int) by omega, rangeSize_nat]; omega
    · funext z
      unfold lawM
      by_cases e1 : z = Str.ofString "number"
      · subst e1; rfl
      · by_cases e2 : z = Str.ofString "turn"
        · subst e2; rfl
        · rw [if_neg e1, if_neg e2]
    · clear F2 N2 hp2
      rintro i t m₁ nx h tk I oI hi9 hI9 ⟨u1, u2, nl2, p1, p2, e2, vs2, ns, n2, rfl, H⟩ F9 N9
      obtain ⟨rfl, hpen, hints, hnd, hrg, hln, hce, hab⟩ := H
      have i1 : @Ne Addr nl2 I := hI9 _ (.head _)
      have i2 : @Ne Addr P I := hI9 _ (.tail _ (.head _))
      have i3 : @Ne Addr q I := hI9 _ (.tail _ (.tail _ (.head _)))
      have i4 : @Ne Addr (L + 1 + 1 + 1 + 1) I := hI9 _ (.tail _ (.tail _ (.tail _ (.head _))))
      have i5 : @Ne Addr (L + 1 + 1 + 1) I := hI9 _ (.tail _ (.tail _ (.tail _ (.tail _ (.head _)))))
      have i6 : @Ne Addr (L + 1 + 1) I := hI9 _ (.tail _ (.tail _ (.tail _ (.tail _ (.tail _ (.head _))))))
      have i7 : @Ne Addr (L + 1) I := hI9 _ (.tail _ (.tail _ (.tail _ (.tail _ (.tail _ (.tail _ (.head _)))))))
      clear hI9
      obtain ⟨z1, z2, z3, z4⟩ := hG.off
      have hvl := IntsAre.length hints
      have hfm : 0 ≤ ((0 : Int) + (i : Int)).fmod 3 := Int.fmod_nonneg_of_pos _ (by decide)
      clear l3 l4
      change Fr s.heap L h _ at F9
      change News s.heap L h _ at N9
      k_steps
      · rename_i d9 td9 r1 r2 g7 tk7 hp9 dl9 du9 g6 FE NE hin
        refine GrEnd.intro (nx := [(nl2, lstO vs2 n2), (P, r1), (q, r2), (L + 1 + 1 + 1 + 1, c4), (L + 1 + 1 + 1, c3), (L + 1 + 1, e2), (L + 1, oP)]) FE NE
          (List.forall_mem_cons.mpr ⟨i1, List.forall_mem_cons.mpr ⟨i2, List.forall_mem_cons.mpr ⟨i3, List.forall_mem_cons.mpr ⟨i4, List.forall_mem_cons.mpr ⟨i5, List.forall_mem_cons.mpr ⟨i6, List.forall_mem_cons.mpr ⟨i7, fun _ h => nomatch h⟩⟩⟩⟩⟩⟩⟩)
          ⟨_, _, nl2, r1, r2, e2, vs2, ns, n2, lawM_put, ⟨rfl, hp9, hints, hnd, hrg, by omega, hce, hab⟩⟩
      · rename_i d9 td9 r1 r2 g7 tk7 hp9 dl9 du9 g6 tk6 hnot D3 w3 g5 I3 L1 l34 lD g4 l33 D2 w2 g3 I2 l22 D1 w1 g2 I1 LL l11 Dn wn g1 hI9' l00 g0 oN9 FE NE hc9
        have hDI : @LT.lt Nat _ I Dn := by omega
        have hDa : @LT.lt Nat _ P Dn ∧ @LT.lt Nat _ q Dn ∧ @LT.lt Nat _ (L + 1 + 1 + 1 + 1) Dn := by refine ⟨?_, ?_, ?_⟩ <;> omega
        refine GrEnd.intro (nx := [(Dn, lstO wn 0), (P, r1), (q, r2), (L + 1 + 1 + 1 + 1, c4), (L + 1 + 1 + 1, c3), (L + 1 + 1, oN9), (L + 1, oP)]) FE (news_sub NE ?_)
          (List.forall_mem_cons.mpr ⟨Nat.ne_of_gt hDI, List.forall_mem_cons.mpr ⟨i2, List.forall_mem_cons.mpr ⟨i3, List.forall_mem_cons.mpr ⟨i4, List.forall_mem_cons.mpr ⟨i5, List.forall_mem_cons.mpr ⟨i6, List.forall_mem_cons.mpr ⟨i7, fun _ h => nomatch h⟩⟩⟩⟩⟩⟩⟩)
          ⟨_, _, Dn, r1, r2, oN9, wn, _, 0, lawM_put, ⟨rfl, hp9, hI9', split_in _ hnd hnot, ?_, ?_, hc9, hDa⟩⟩
        · intro p hp
          rcases List.mem_cons.mp hp with rfl | hp
          · k_mem
          · refine List.Sublist.subset ?_ hp
            repeat (first | exact .slnil | apply List.Sublist.cons₂ | apply List.Sublist.cons)
        · intro x hx
          rcases split_mem hx with rfl | hx
          · omega
          · exact hrg x hx
        · rw [split_len]; omega
    · rintro m₁ nx h tk hJ F9 N9
      exact ⟨rfl, h, tk, m₁, nx, P, q, oP, c3, c4, rfl, F9, N9, hG, hJ.mono (by omega)⟩
  · obtain ⟨rfl, hS⟩ := hq
    dsimp only
    clear N0 F0 hp l1 nPQ l2 l3 oP dP nl h4 l4 h3 oN F' N' dN P q o1 o2 h6 tk6 h5
    obtain ⟨h6, tk6, m6, nx6, P, q, c1', c3', c4', rfl, F6, N6, hG, u1, u2, nl, o1, o2, c2', vn, ns, n6, rfl, rfl, hpen, hin, hnd, hrg, hln, hce, hab⟩ := hS
    obtain ⟨hqP, hLP, hoff, hd1, hd3, hd4⟩ := hG
    obtain ⟨z1, z2, z3, z4⟩ := hoff
    have hvl := IntsAre.length hin
    have nPQ : @Ne Nat P q := Nat.ne_of_gt hqP
    obtain ⟨y1, y2, y3⟩ := hab
    obtain ⟨base, hbase⟩ : ∃ b : List (Addr × Obj), b = [(nl, lstO vn n6), (L + 1 + 1 + 1 + 1, c4'), (L + 1 + 1 + 1, c3'), (L + 1 + 1, c2'), (L + 1, c1')] := ⟨_, rfl⟩
    have hbP : ∀ p ∈ base, p.1 ≠ P := by
      rw [hbase]
      refine List.forall_mem_cons.mpr ⟨Nat.ne_of_gt y1, List.forall_mem_cons.mpr ⟨?_, List.forall_mem_cons.mpr ⟨?_, List.forall_mem_cons.mpr ⟨?_, List.forall_mem_cons.mpr ⟨?_, fun _ h => nomatch h⟩⟩⟩⟩⟩ <;> (refine neN ?_; dsimp only; omega)
    have hbq : ∀ p ∈ base, p.1 ≠ q := by
      rw [hbase]
      exact List.forall_mem_cons.mpr ⟨Nat.ne_of_gt y2, List.forall_mem_cons.mpr ⟨z1, List.forall_mem_cons.mpr ⟨z2, List.forall_mem_cons.mpr ⟨z3, List.forall_mem_cons.mpr ⟨z4, fun _ h => nomatch h⟩⟩⟩⟩⟩
    have hbl : ∀ p ∈ base, p.1 ≤ nl := by
      rw [hbase]
      refine List.forall_mem_cons.mpr ⟨Nat.le_refl _, List.forall_mem_cons.mpr ⟨?_, List.forall_mem_cons.mpr ⟨?_, List.forall_mem_cons.mpr ⟨?_, List.forall_mem_cons.mpr ⟨?_, fun _ h => nomatch h⟩⟩⟩⟩⟩ <;> (show @LE.le Nat _ _ _; dsimp only; omega)
    have b1 : (nl, lstO vn n6) ∈ base := by rw [hbase]; exact .head _
    have b2 : (L + 1, c1') ∈ base := by rw [hbase]; exact .tail _ (.tail _ (.tail _ (.tail _ (.head _))))
    k_steps
    refine Stop.mk ?_
    refine LCt.CompSrcT.ledger (news := (P, o1) :: (q, o2) :: ([] ++ base)) rfl F6 (news_sub N6 ?_) (.tail _ (.tail _ b1)) (by rw [PySem.sizeLine_eq]; simp; omega) ?_
    · rw [hbase]
      intro p hp
      rcases List.mem_cons.mp hp with rfl | hp
      · exact .tail _ (.head _)
      · rcases List.mem_cons.mp hp with rfl | hp
        · exact .tail _ (.tail _ (.head _))
        · rcases List.mem_cons.mp hp with rfl | hp
          · exact .head _
          · exact .tail _ (.tail _ (.tail _ hp))
    intro g
    refine compRestT_inv (GenInv P q nl base ns) ?_ ?_ _ 0 [] _ (Nat.zero_add _) ⟨o1, o2, [], [], rfl, hpen, (fun p hp => nomatch hp), rfl, (fun j v hj => nomatch hj), List.Sublist.refl _, (fun p hp => nomatch hp)⟩
    · rintro i ys _ v I oI C oC D m₂ h tk E' hi ⟨p1, p2, tl, prs, rfl, hpen9, hlt, hpl, hpr, hsub, hint⟩ hv hoC hx F9 N9 off ne
      obtain ⟨k, t, hk, rfl⟩ := ints_at hin (i := i) (by simpa using hv)
      clear N6 F6 hpen
      have t1 : ∀ p ∈ tl ++ base, p.1 ≠ P := fun p hp => by
        rcases List.mem_append.mp hp with hp | hp
        · exact Nat.ne_of_gt (Nat.lt_trans y1 (hlt p hp))
        · exact hbP p hp
      have t2 : ∀ p ∈ tl ++ base, p.1 ≠ q := fun p hp => by
        rcases List.mem_append.mp hp with hp | hp
        · exact Nat.ne_of_gt (Nat.lt_trans y2 (hlt p hp))
        · exact hbq p hp
      have t3 : (L + 1, c1') ∈ tl ++ base := List.mem_append_right _ b2
      have t4 : (nl, lstO vn n6) ∈ tl ++ base := List.mem_append_right _ b1
      obtain ⟨⟨oPI, oPC, oPD⟩, ⟨oqI, oqC, oqD⟩, off9⟩ := off
      obtain ⟨nIC, nID, nCD⟩ := ne
      k_steps
      · rename_i dg tg r1 r2 h8 tk8 hp8 dl8 du8 D2 h9 FE NE l9
        change LCg.CompEnd _ _ _ _ _ _ _ _ _ _ _ _ _ _
        refine LCg.CompEnd.intro FE NE ((P, r1) :: (q, r2) :: (((D2, ({ cls := Value.type "tuple", data := Data.seq #[Value.int k t, Value.int dg tg] } : Obj)) :: tl) ++ base)) ?_
          ⟨⟨oPI, oPC, oPD⟩, ⟨oqI, oqC, oqD⟩, ⟨Nat.ne_of_gt l9.1, Nat.ne_of_gt l9.2.1, Nat.ne_of_gt l9.2.2.1⟩, off9⟩ (.inr ⟨_, .tail _ (.tail _ (List.mem_append_right _ b1)), rfl, _, rfl⟩)
          (GenInv.snoc hk hp8 hlt hpl hpr hsub hint (tb_ltOf l9.2.2.2.2.2 (nl, lstO vn n6) (List.mem_append_right _ b1)))
        intro p hp
        simp only [List.cons_append, List.mem_cons] at hp ⊢
        rcases hp with h | h | h | h | h | h | h <;> simp [h]
      · rename_i da ta r1 r2 h9 tk9 FE NE hp8 dl8 du8 hneg
        exact LCg.CompEnd.intro FE NE ((P, r1) :: (q, r2) :: (tl ++ base)) (by lcg_sub)
          ⟨⟨oPI, oPC, oPD⟩, ⟨oqI, oqC, oqD⟩, off9⟩ (.inr ⟨_, .tail _ (.tail _ (List.mem_append_right _ b1)), rfl, _, rfl⟩) (GenInv.skip hp8 hlt hpl hpr hsub hint)
    · rintro ys _ ⟨p1, p2, tl, prs, rfl, hpen9, hlt, hpl, hpr, hsub, hint⟩
      clear N6 F6 hpen
      k_steps
      rename_i D1 h8 tk8 FE NE oE
      have hpn : prs.length ≤ 9 := by
        have := hsub.length_le
        rw [List.length_map, List.length_take] at this
        omega
      have hpnd : (prs.map (·.1)).Nodup := hsub.nodup ((List.take_sublist _ _).nodup hnd)
      have hpsub : ∀ x ∈ prs.map (·.1), x ∈ ns := fun x hx => List.mem_of_mem_take (hsub.subset hx)
      refine dict_pairs_news (prs := prs) rfl (Top.nolimit T) FE NE (.head _) hpl (by omega) (fun i v hv => ?_) ?_
      · obtain ⟨k, x, e1, e2⟩ := hpr i v hv
        exact ⟨k, x, e1, e2.mono fun p hp => .tail _ (.tail _ (.tail _ (List.mem_append_left _ hp)))⟩
      intro gd h9 tk9 go F9 N9 l9 lo9 hd9
      rw [laid_self hpnd] at hd9
      have hgen := genOf_is hint
      have N10 : News s.heap L h9 ((gd, go) :: (P, p1) :: (q, p2) :: base) := news_sub N9 fun p hp => by
        simp only [List.mem_cons, List.mem_append] at hp ⊢
        rcases hp with h | h | h | h <;> simp [h]
      have l10 : @LT.lt Nat _ nl gd := l9 (nl, lstO vn n6) (.tail _ (.tail _ (.tail _ (List.mem_append_right _ b1))))
      clear N9 FE NE l9 oE hpr hlt hsub hpl hbP hbq hbl b1 b2
      subst hbase
      dsimp only
      clear tl ys g D1 h8 tk8 o1 o2 c1 c2 c3 c4 q1 q2 q3 q4 h₁ tk₁ h6 tk6
      k_steps
      rename IsRange _ _ _ _ _ _ _ _ => hR
      rename News _ _ _ _ => N11
      rename Fr _ _ _ _ => F11
      refine Stop.mk ?_
      refine LCt.CompSrcT.range (n := 41) rfl (by k_asm) N11 hR (by decide) (by decide) (by rw [PySem.sizeLine_eq]; decide) ?_
      intro g
      refine compRestT_inv (fun i ys news => news = (gd, go) :: (P, p1) :: (q, p2) :: (nl, lstO vn n6) :: (L + 1 + 1 + 1 + 1, c4') :: (L + 1 + 1 + 1, c3') :: (L + 1 + 1, c2') :: (L + 1, c1') :: [] ∧ IntsAre ys (moreL ns i)) ?_ ?_ _ 0 [] _ (Nat.zero_add _) ⟨rfl, .nil⟩
      · rintro i ys _ v I oI C oC D m₂ h tk E' hi ⟨rfl, hys⟩ ⟨t, rfl⟩ hoC hx F9 N9 off ne
        clear N11 F11
        k_steps
        · rename_i hno
          refine LCg.CompEnd.intro F9 N9 _ (fun p hp => hp) off trivial ⟨rfl, ?_⟩
          rw [moreL_succ, if_pos hno, List.append_nil]
          exact hys
        · rename_i hno
          refine LCg.CompEnd.intro F9 N9 _ (fun p hp => hp) off trivial ⟨rfl, ?_⟩
          rw [moreL_succ, if_neg hno]
          exact IntsAre.append hys (.cons _ _ .nil)
      · rintro ys _ ⟨rfl, hys⟩
        clear N11 F11 hR
        k_steps
        rename_i D1 h12 tk12 FE NE oE
        obtain ⟨x1, x2, x3, x4, x5, x6, x7, x8⟩ := oE
        replace x1 : @Ne Addr gd D1 := x1
        replace x2 : @Ne Addr P D1 := x2
        replace x3 : @Ne Addr q D1 := x3
        replace x4 : @Ne Addr nl D1 := x4
        replace x5 : @Ne Addr (L + 1 + 1 + 1 + 1) D1 := x5
        replace x6 : @Ne Addr (L + 1 + 1 + 1) D1 := x6
        replace x7 : @Ne Addr (L + 1 + 1) D1 := x7
        replace x8 : @Ne Addr (L + 1) D1 := x8
        refine Stop.mk ?_
        have hml := moreL_len hln
        refine draw_news (P := P) (q := q) K0 FE KX NE T rfl hpen9 (by decide) (by decide) nPQ (by k_updF) (by intro _; k_updF) ?_
        intro d13 t13 p3 p4 h13 tk13 F13 N13 hpen13 dl13 du13
        dsimp only at N13 ⊢
        clear FE NE
        have hmi := moreL_mem (moreL_at hln dl13 du13)
        k_steps
        rename_i tM hM oM dM dg tg r1 r2 h14 tk14 hp14 dl14 du14 h15 go2 F15 N15 hd15
        obtain ⟨mo1, mo2, mo3⟩ := hmi
        generalize (moreL ns 41).getD d13.toNat 0 = mo at *
        have N16 : News s.heap L h15 ((gd, go2) :: (nl, lstO vn n6) :: (L + 1 + 1 + 1 + 1, c4') :: (L + 1 + 1 + 1, oM) :: (L + 1 + 1, c2') :: []) := news_sub N15 fun p hp => by
          simp only [List.mem_cons, List.not_mem_nil, or_false] at hp ⊢
          rcases hp with h | h | h | h | h <;> simp [h]
        have hg2 := gen_put (k := mo) (g := dg) (t := tg) hgen
        have hvm : valueAt (stored prs mo (.int dg tg)) mo = some (.int dg tg) := by rw [valueAt_stored, if_pos rfl]
        have hgm : (fun j => if j = mo then dg else genOf prs j) mo = dg := by simp
        have hl2 : (stored prs mo (.int dg tg)).length ≤ 10 := by have := stored_len prs mo (.int dg tg); omega
        clear N15 hp14 dl14 du14 r1 r2 hml hys x1 x2 x3 x4 x5 x6 x7 x8 hpen13 dl13 du13 hgen hd9 hpen9 hpn hpnd hpsub
        generalize stored prs mo (.int dg tg) = kv2 at *
        generalize (fun j => if j = mo then dg else genOf prs j) = gen2 at *
        k_steps
        rename_i kd ko g1 l1a lneK loK hdK g2 k2 lD lc g3 Fx Nx lL fd3 fo3 tl3 kvs3 g4 k4 lo3 hd3' hc3 l17 l23 hE3 fd fo tlF kvF g5 k5 loF hdF hcF l16 l22 l32 hEF lm g6 l15 Dm wm g7 hIm l14 md3 mo3' tl1 kvs1 g8 k8 lo1 hd1' hc1 l13 l21 hE1 md mdo tlM kvM g9 k9 loM hdM hcM l12 l20 l31 hEM Dt g10 l11 g11 g12 g13 lz g14 FE NE lZ
        clear Fx Nx
        obtain ⟨R9, hR9⟩ : ∃ b : List (Addr × Obj), b = (md, mdo) :: (fd, fo) :: (tlM ++ (tlF ++ [(kd, ko), (gd, go2), (nl, lstO vn n6), (L + 1 + 1 + 1, oM), (L + 1 + 1, c2')])) := ⟨_, rfl⟩
        have N20 : News s.heap L g14 ((lz, lstO [Value.int 0 tk] 0) :: (L + 1 + 1 + 1 + 1, c4') :: R9) := news_sub NE fun p hp => by
          rw [hR9] at hp
          simp only [List.mem_cons, List.mem_append, List.not_mem_nil, or_false] at hp ⊢
          rcases hp with h | h | h | h | h | h | h | h | h | h | h <;> simp [h]
        have w1 : (md, mdo) ∈ R9 := by rw [hR9]; exact .head _
        have w2 : (fd, fo) ∈ R9 := by rw [hR9]; exact .tail _ (.head _)
        have w3 : (kd, ko) ∈ R9 := by rw [hR9]; exact .tail _ (.tail _ (List.mem_append_right _ (List.mem_append_right _ (.head _))))
        have w4 : (gd, go2) ∈ R9 := by rw [hR9]; exact .tail _ (.tail _ (List.mem_append_right _ (List.mem_append_right _ (.tail _ (.head _)))))
        have w5 : (nl, lstO vn n6) ∈ R9 := by rw [hR9]; exact .tail _ (.tail _ (List.mem_append_right _ (List.mem_append_right _ (.tail _ (.tail _ (.head _))))))
        have w6 : (L + 1 + 1 + 1, oM) ∈ R9 := by rw [hR9]; exact .tail _ (.tail _ (List.mem_append_right _ (List.mem_append_right _ (.tail _ (.tail _ (.tail _ (.head _)))))))
        have w7 : (L + 1 + 1, c2') ∈ R9 := by rw [hR9]; exact .tail _ (.tail _ (List.mem_append_right _ (List.mem_append_right _ (.tail _ (.tail _ (.tail _ (.tail _ (.head _))))))))
        have w8 : ∀ p ∈ R9, p.1 ≠ L + 1 + 1 + 1 + 1 := by
          intro p hp
          rw [hR9] at hp
          simp only [List.mem_cons, List.mem_append, List.not_mem_nil, or_false] at hp
          rcases hp with h | h | h | h | h | h | h | h | h
          · rw [h]; exact Nat.ne_of_gt (l12 (L + 1 + 1 + 1 + 1, c4') (by k_mem))
          · rw [h]; exact Nat.ne_of_gt (l16 (L + 1 + 1 + 1 + 1, c4') (by k_mem))
          · exact Nat.ne_of_gt (l31 p h (L + 1 + 1 + 1 + 1, c4') (by k_mem))
          · exact Nat.ne_of_gt (l32 p h (L + 1 + 1 + 1 + 1, c4') (by k_mem))
          · rw [h]; exact Nat.ne_of_gt (l1a (L + 1 + 1 + 1 + 1, c4') (by k_mem))
          · rw [h]; exact Nat.ne_of_gt (Nat.lt_trans y3 l10)
          · rw [h]; exact Nat.ne_of_gt y3
          · rw [h]; exact neN (by dsimp only; omega)
          · rw [h]; exact neN (by dsimp only; omega)
        replace hEF : TupsAre R9 kvF (chainS ns gen2) := hEF.mono fun p hp => by rw [hR9]; exact .tail _ (.tail _ (List.mem_append_right _ (List.mem_append_left _ hp)))
        replace hEM : TupsAre R9 kvM (chainS (ns ++ [mo]) gen2) := hEM.mono fun p hp => by rw [hR9]; exact .tail _ (.tail _ (List.mem_append_left _ hp))
        clear hR9 NE l1a lneK lL l17 l23 hE3 l16 l22 l32 l15 l14 l13 l21 hE1 l12 l20 l31 l11 lZ hIm hd3' hd1' hc3 hc1 lo3 lo1
        clear tl3 tl1 tlM tlF fd3 fo3 kvs3 md3 mo3' kvs1 Dm wm lm g1 g2 k2 lD lc g3 g4 k4 g5 k5 g6 g7 g8 k8 g9 k9 g10 g11 g12 Dt
        refine Stop.mk ?_
        refine LCt.CompSrcT.ledger (news := (lz, lstO [Value.int 0 tk] 0) :: (L + 1 + 1 + 1 + 1, c4') :: R9) rfl FE N20 (.tail _ (.tail _ w5)) (by rw [PySem.sizeLine_eq]; simp; omega) ?_
        intro g
        dsimp only
        refine compRestT_inv (fun i ys news => news = (lz, lstO [Value.int 0 tk] 0) :: (L + 1 + 1 + 1 + 1, c4') :: R9 ∧ IntsAre ys ((ns.take i).filter fun x => decide (x < mo))) ?_ ?_ _ 0 [] _ (Nat.zero_add _) ⟨rfl, .nil⟩
        · rintro i ys _ v I oI C oC D m₂ h tk E' hi ⟨rfl, hys⟩ hv hoC hx F9 N9 off ne
          obtain ⟨k, t, hk, rfl⟩ := ints_at hin (i := i) (by simpa using hv)
          have hs2 : ns.take (i + 1) = ns.take i ++ [k] := by rw [List.take_add_one, hk]; rfl
          clear N20 FE
          k_steps
          · rename_i hno
            refine LCg.CompEnd.intro F9 N9 _ (fun p hp => hp) off (.inr ⟨_, .tail _ (.tail _ w5), rfl, _, rfl⟩) ⟨rfl, ?_⟩
            rw [hs2, List.filter_append, List.filter_cons_of_pos (by simpa using hno)]
            exact IntsAre.append hys (.cons _ _ .nil)
          · rename_i hno
            refine LCg.CompEnd.intro F9 N9 _ (fun p hp => hp) off (.inr ⟨_, .tail _ (.tail _ w5), rfl, _, rfl⟩) ⟨rfl, ?_⟩
            rw [hs2, List.filter_append, List.filter_cons_of_neg (by simpa using hno), List.filter_nil, List.append_nil]
            exact hys
        · rintro ys _ ⟨rfl, hys⟩
          rw [List.take_of_length_le (by simp; omega)] at hys
          clear N20 FE
          have hfl := List.length_filter_le (fun x => decide (x < mo)) ns
          k_steps
          rename_i Dz hz1 tkz oz Dq wq hz2 FE NE hIq lq
          refine Stop.mk ?_
          refine kso_max FE NE (News.isList NE (.head _)) hIq (by simp) rfl fun h30 M tM30 tk30 F30 N30 hM1 hM2 => ?_
          dsimp only
          have hA : Ahead ns mo M := by
            have c : M = 0 ∨ (M ∈ ns ∧ M < mo) := by
              rcases List.mem_append.mp hM1 with h | h
              · exact .inl (List.mem_singleton.mp h)
              · exact .inr ⟨(List.mem_filter.mp h).1, by simpa using (List.mem_filter.mp h).2⟩
            refine ⟨?_, hM2 0 (.head _), ?_, fun x hx hlt => hM2 x (List.mem_append_right _ (List.mem_filter.mpr ⟨hx, by simpa using hlt⟩))⟩
            · rcases c with e | e
              · exact .inl e
              · exact .inr e.1
            · rcases c with e | e
              · omega
              · exact e.2
          have N31 : News s.heap L h30 ((L + 1 + 1 + 1 + 1, c4') :: R9) := news_sub N30 fun p hp => .tail _ (.tail _ (.tail _ hp))
          have hpos : ∀ x ∈ ns, 1 ≤ x := fun x hx => (hrg x hx).1
          have hcM : chainS ns gen2 M = some (nxt ns M, if M = 0 then 65535 else gen2 M) := by
            unfold chainS
            rw [if_pos]
            rcases hA.at' with e | e
            · exact .inl e
            · exact .inr ⟨by have := hpos M e; omega, e⟩
          have hc0 : chainS ns gen2 0 = some (nxt ns 0, 65535) := by
            unfold chainS
            rw [if_pos (.inl rfl), if_pos rfl]
          have hFM := hEF M
          rw [hcM] at hFM
          obtain ⟨va, hva, xa, ta1, ta2, ta3, na, rfl, hma⟩ := hFM
          have hF0 := hEF 0
          rw [hc0] at hF0
          obtain ⟨v0, hv0, x0, tb1, tb2, tb3, nb, rfl, hm0⟩ := hF0
          dsimp only at hma hm0
          clear N30 NE FE hIq lq oz hM1 hM2 hys hfl
          k_steps
          rename_i hx0 F1x N1x tkx dD dO hx1 lx1 lxne loD hdD hx2 tkx2 T1 hx3 lT1 hx4 dO2 hdD2 T2 hx5 FE NE lT2
          refine set_news FE NE (.tail (Nat.ne_of_gt lT2.2.1) (.tail (Nat.ne_of_gt lT1.1) (.head lxne))) hdD2 (by have := stored_len kvF mo (.ref T1); omega) ?_
          intro h40 dO3 F40 N40 hdD3
          dsimp only at N40 ⊢
          have hdue : TupsAre ((T2, { cls := Value.type "tuple", data := Data.seq #[Value.str (Str.ofString "free") tk, Value.int mo tM, Value.int (if M = 0 then 65535 else gen2 M) ta3] }) :: (T1, { cls := Value.type "tuple", data := Data.seq #[Value.str (Str.ofString "free") tkx2, Value.int (nxt ns M) ta2, Value.int dg tg] }) :: (dD, dO3) :: (L + 1 + 1 + 1 + 1, c4') :: R9)
              (stored (stored kvF mo (.ref T1)) M (.ref T2)) (chainS (ns ++ [mo]) gen2) := by
            rw [chain_insert gen2 hpos mo1 mo3 hA, hgm]
            refine TupsAre.put (e := (mo, if M = 0 then 65535 else gen2 M)) (TupsAre.put (e := (nxt ns M, dg)) (hEF.mono fun p hp => .tail _ (.tail _ (.tail _ (.tail _ hp)))) ?_) ?_
            · exact ⟨T1, _, _, _, _, rfl, .tail _ (.head _)⟩
            · exact ⟨T2, _, _, _, _, rfl, .head _⟩
          clear FE NE F1x N1x hx1 hx2 hx3 hx4 hx5 hdD hdD2 dO dO2
          k_steps
          refine Stop.mk ?_
          refine ne_tups N40 (by k_mem) (by k_mem) hdM hdD3 loM loD (by k_units) (by first | k_units | units_room | ke_room) (hEM.mono fun p hp => .tail _ (.tail _ (.tail _ (.tail _ hp)))) hdue ?_
          k_steps
          refine Stop.mk ?_
          refine ne_self N40 (by k_mem) (by k_mem) hd15 hdK lo9 loK (by k_units) ?_
          k_steps
          rename_i gd4 go4 tlG kvG g44 k44 FE NE loG hdG hcG lg1 lg2 lg3 hEG
          have hcg : chainS (ns ++ List.take 1 ns ++ [0]) gen2 = chainS ns gen2 := chainS_congr gen2 fun x hx => by
            simp only [List.mem_append, List.mem_singleton]
            constructor
            · rintro ((h | h) | h)
              · exact h
              · exact List.mem_of_mem_take h
              · omega
            · exact fun h => .inl (.inl h)
          rw [hcg] at hEG
          refine Stop.mk ?_
          refine ne_tups NE (by k_mem) (by k_mem) hdG hdF loG loF (by k_units) (by first | k_units | units_room | ke_room) (hEG.mono fun p hp => by kcf_m) (hEF.mono fun p hp => by kcf_m) ?_
          k_steps
          rename_i gd5 go5 tlH kvH g55 k55 FH NH loH hdH hcH lh1 lh2 lh3 hEH
          have N50 : News s.heap L g55 ((gd5, go5) :: (tlH ++ ((L + 1 + 1 + 1 + 1, c4') :: R9))) := news_sub NH fun p hp => by
            rcases List.mem_cons.mp hp with rfl | hp
            · exact .head _
            · rcases List.mem_append.mp hp with hp | hp
              · exact .tail _ (List.mem_append_left _ hp)
              · rcases List.mem_cons.mp hp with rfl | hp
                · k_mem
                · kcf_m
          have hEH2 : TupsAre ((gd5, go5) :: (tlH ++ ((L + 1 + 1 + 1 + 1, c4') :: R9))) kvH (chainS [] gen2) := hEH.mono fun p hp => .tail _ (List.mem_append_left _ hp)
          have gG : (L + 1 + 1 + 1 + 1, c4') ∈ tlH ++ ((L + 1 + 1 + 1 + 1, c4') :: R9) := List.mem_append_right _ (.head _)
          clear NH
          refine Stop.mk ?_
          refine' kdn_int ?vq ?vF ?vN ?vb ?va ?vl ?ve ?vn ?_
          (case vq => rfl)
          (case vF => k_asm)
          (case vN => exact N50)
          (case vb => exact Top.nolimit (by k_asm))
          (case va => rfl)
          (case vl => rfl)
          (case ve => exact List.cons_ne_nil _ _)
          (case vn => exact Nat.le_of_ble_eq_true rfl)
          intro d60 h60 o60 F60 N60 l60 lo60 hd60
          have lne60 : ∀ p ∈ (gd5, go5) :: (tlH ++ ((L + 1 + 1 + 1 + 1, c4') :: R9)), p.1 ≠ d60 := fun p hp => Nat.ne_of_lt (l60 p hp)
          clear N50 FH
          k_steps
          rename_i T60 h61 Fx61 Nx61 lT60 h62 o62 FE NE hd62
          replace hd62 : o62.IsDictOf (PySem.intKind PySem.Challenge.rw_og0121_01.row.prog w) [(0, .ref T60)] := hd62
          have hlit : TupsAre ((T60, { cls := Value.type "tuple", data := Data.seq #[Value.str (Str.ofString "free") (k55 + 1), Value.int 0 (k55 + 1 + 1), Value.int 65535 (k55 + 1 + 1 + 1)] }) :: (d60, o62) :: (gd5, go5) :: (tlH ++ ((L + 1 + 1 + 1 + 1, c4') :: R9))) [(0, .ref T60)] (chainS [] gen2) := by
            intro k
            unfold chainS
            by_cases hk : k = 0
            · subst hk
              rw [if_pos (.inl rfl)]
              exact ⟨.ref T60, rfl, T60, _, _, _, _, rfl, .head _⟩
            · rw [if_neg (by rintro (h | h); exact hk h; cases h.2)]
              show valueAt _ _ = none
              unfold valueAt
              rw [List.find?_cons_of_neg (by simpa using fun e : 0 = k => hk e.symm)]
              rfl
          refine Stop.mk ?_
          refine ne_tups NE (by k_mem) (by k_mem) hdH hd62 loH lo60 (by k_units) (by first | k_units | units_room | ke_room) (hEH2.mono fun p hp => .tail _ (.tail _ hp)) hlit ?_
          have N70 : News s.heap L h62 ((L + 1 + 1 + 1 + 1, c4') :: R9) := news_sub NE fun p hp => .tail _ (.tail _ (.tail _ (List.mem_append_right _ hp)))
          have hg0 : GenIs [] (fun _ => 0) := fun k => .inr ⟨rfl, rfl⟩
          clear Nx61 Fx61 NE hEH2 hlit lT60 lne60 l60 hEH lh1 lh2 lh3 hEG lg1 lg2 lg3 hdue hcg gG hma hm0 hva hv0 hcM hc0 hEF hEM hg2 hgm hvm
          k_steps
          rename_i lm2 h71 lx1 Dm2 wm2 h72 hIm2 lx2 dz h73 oz Fx Nx loz hsz fsz hiz fiz lx3 ed eo tlE kvE h75 k75 FE NE loE hdE hcE le1 le2 hEE
          have N80 : News s.heap L h75 ((L + 1 + 1 + 1 + 1, c4') :: (ed, eo) :: (tlE ++ R9)) := news_sub NE fun p hp => by
            rcases List.mem_cons.mp hp with rfl | hp
            · k_mem
            · rcases List.mem_cons.mp hp with rfl | hp
              · exact .head _
              · rcases List.mem_append.mp hp with hp | hp
                · exact .tail _ (List.mem_append_left _ hp)
                · exact .tail _ (List.mem_append_right _ (.tail _ (.tail _ (.tail _ (.tail _ hp)))))
          have ne80 : ∀ p ∈ (ed, eo) :: (tlE ++ R9), p.1 ≠ L + 1 + 1 + 1 + 1 := by
            have e1 := le1 (L + 1 + 1 + 1 + 1, c4') (by k_mem)
            intro p hp
            rcases List.mem_cons.mp hp with rfl | hp
            · exact Nat.ne_of_gt e1
            · rcases List.mem_append.mp hp with hp | hp
              · exact Nat.ne_of_gt (Nat.lt_trans e1 (le2 p hp))
              · exact w8 p hp
          clear NE Fx Nx
          refine Stop.mk ?_
          refine' storeX_C FE N80 ?vc (.head ne80) ?vd ?_ ?va2 ?vb2
          (case va2 => rfl)
          (case vb2 => rfl)
          (case vc => rfl)
          (case vd => assumption)
          intro h81 o81 F81 N81 dE81
          have hndm : (ns ++ [mo]).Nodup := by
            rw [List.nodup_append]
            exact ⟨hnd, by simp, fun x hx y hy e => mo3 (by rw [← List.mem_singleton.mp hy, ← e]; exact hx)⟩
          have h0m : ∀ x ∈ ns ++ [mo], 0 < x := fun x hx => by
            rcases List.mem_append.mp hx with hx | hx
            · have := hpos x hx; omega
            · rw [List.mem_singleton.mp hx]; omega
          obtain ⟨ps, hps, hpl2⟩ := rising_some hndm h0m
          rw [List.length_append, List.length_singleton] at hpl2
          dsimp only
          k_steps
          rename_i Cd Cv Cc g82 k82 Chi l82 lmo g83 l83 D84 w84 g84 hI84 l84 S1 v1 ss1 cc1 h86 FE NE hi86 pp86 oo86 ll86 pl86
          have es1 : ps = ss1 := rising_eq hps (rising_of pp86 oo86 hndm h0m)
          refine Stop.mk ?_
          refine ne_intsK (News.isList NE (by k_mem)) Chi (News.isList NE (by k_mem)) hi86 (by first | k_units | units_room | ke_room) ?_
          rw [show (!decide (ps = ss1)) = false by simp [es1]]
          have N87 : News s.heap L h86 ((L + 1 + 1 + 1 + 1, o81) :: (ed, eo) :: (tlE ++ R9)) := news_sub NE fun p hp => .tail _ (.tail _ (.tail _ (.tail _ hp)))
          clear NE Chi hi86 hI84 pp86 oo86 ll86 pl86 l84 l83 l82
          k_steps
          rename_i Nd Nv Nc ks g92 k92 Nhi Nhp Nho lm3 g93 l93 D94 w94 g94 hI94 l94 S2 v2 ss2 cc2 h96 FE NE hi96 pp96 oo96 ll96 pl96
          have es2 : (ks.filter fun x => decide (0 < x)) = ss2 := rising_eq (keys_rise hEE (nodup_dict hdE) Nhp Nho) (rising_of pp96 oo96 hndm h0m)
          refine Stop.mk ?_
          refine ne_intsK (News.isList NE (by k_mem)) Nhi (News.isList NE (by k_mem)) hi96 (by first | k_units | units_room | ke_room) ?_
          rw [show (!decide ((ks.filter fun x => decide (0 < x)) = ss2)) = false by simp [es2]]
          have N97 : News s.heap L h96 ((L + 1 + 1 + 1 + 1, o81) :: (ed, eo) :: (tlE ++ R9)) := news_sub NE fun p hp => .tail _ (.tail _ (.tail _ (.tail _ hp)))
          clear NE Nhi hi96 hI94 pp96 oo96 ll96 pl96 l94 l93 N87 Nhp Nho
          k_steps
          refine Stop.mk ?_
          k_dflt (refine LCg.ListComp_U (F₀ := by k_asm) (by with_unfolding_all rfl) (by decide) (by rfl) (by decide) (by rfl) ?_)
          k_steps
          refine Stop.mk ?_
          refine sorted_dict_news (kvs := kvE) rfl FE N97 (by kcf_m) hdE loE (by omega) ?_
          intro Ds vs9 ks9 cs9 h97 tk97 F97 N98 l97 i97 p97 o97
          have hks := keys_zero hEE (nodup_dict hdE) p97 o97 hps
          have hEE9 : EntsAre w.params (tlE ++ R9) kvE (chainS (ns ++ [mo]) fun _ => 0) := ents_mono hEE fun p hp => List.mem_append_left _ hp
          have v5 : (nl, lstO vn n6) ∈ tlE ++ R9 := List.mem_append_right _ w5
          have v7 : (L + 1 + 1, c2') ∈ tlE ++ R9 := List.mem_append_right _ w7
          clear FE N97 l97
          generalize tlE ++ R9 = R10 at N98 hEE9 v5 v7
          have hv1 := IntsAre.length i97
          have hk9 : ks9.length = ns.length + 2 := by rw [hks, List.length_cons, hpl2]
          refine LCg.CompSrc.ledger rfl F97 N98 (.head _) (by rw [PySem.sizeLine_eq]; simp; omega) ?_
          intro g
          dsimp only
          refine compRest_inv (fun i ys news => news = (Ds, lstO vs9 cs9) :: (L + 1 + 1 + 1 + 1, o81) :: (ed, eo) :: R10 ∧ IntsAre ys ((ks9.take i).map fun k => if k = 0 then 65535 else 0)) ?_ ?_ _ 0 [] _ (Nat.zero_add _) ⟨rfl, .nil⟩
          · rintro i ys _ v I oI C oC D m₂ h tk E' hi ⟨rfl, hys⟩ hv hoC hx F9 N9 off ne
            obtain ⟨k, t, hk, rfl⟩ := ints_at i97 (i := i) (by simpa using hv)
            have hkm : k ∈ kvE.map (·.1) := p97.mem_iff.mp (List.mem_of_getElem? hk)
            obtain ⟨v, e', hv, hf, x, dx, t1, t2, t3, t4, t5, t6, n, rfl, m1, m2⟩ := ents_at hEE9 hkm
            have hs : ks9.take (i + 1) = ks9.take i ++ [k] := by rw [List.take_add_one, hk]; rfl
            have he2 : e'.2 = if k = 0 then 65535 else 0 := by
              unfold chainS at hf
              split at hf
              · cases hf; rfl
              · cases hf
            clear F97
            k_steps
            refine LCg.CompEnd.intro F9 N9 _ (fun p hp => hp) off (.inr ⟨_, .head _, rfl, _, rfl⟩) ⟨rfl, ?_⟩
            rw [hs, List.map_append]
            refine IntsAre.append hys ?_
            rw [List.map_cons, List.map_nil, ← he2]
            exact .cons _ _ .nil
          · rintro ys _ ⟨rfl, hys⟩
            rw [List.take_of_length_le (by simp; omega), hks] at hys
            have hmp := twos_of hps hpl2
            rw [hmp] at hys
            clear F97
            k_steps
            rename_i DR hR1 tkR oR lA hR2 lA1 lB hR3 FE NE lB1
            refine Stop.mk ?_
            dsimp only
            refine KM.mul FE NE (News.isList NE (by k_mem)) (.cons _ _ .nil) (by omega) (by omega) (by simp only [List.length_cons, List.length_nil]; omega) ?_
            intro DM hM FM NM lM iM N9 e1 e2 e3 e4
            clear e1 e2 e3 e4
            have hx9 : ((ns.length : Int) + 1).toNat = ns.length + 1 := by omega
            rw [hx9, List.flatten_replicate_singleton, List.flatten_replicate_singleton] at iM
            rw [hx9, List.flatten_replicate_singleton] at NM
            generalize List.replicate (ns.length + 1) (Value.int 0 (tkR + 1)) = vsM at iM NM
            have hlM : vsM.length = ns.length + 1 := by rw [iM.length, List.length_replicate]
            clear FE NE
            k_steps
            rename_i D99 w99 h99 FE NE hI99 l99
            refine Stop.mk ?_
            dsimp only
            refine eq_intsK (News.isList NE (by k_mem)) hys (News.isList NE (by k_mem)) hI99 (by first | k_units | units_room | ke_room) ?_
            rw [show (decide (65535 :: List.replicate (ns.length + 1) (0 : Int) = [65535] ++ List.replicate (ns.length + 1) 0)) = true from decide_eq_true rfl]
            exact ⟨rfl, _, _, _, rfl, FE⟩
end

end Mine
theorem PySem.Challenge.cw_og0121_01_holds : PySem.Challenge.rw_og0121_01.Holds := by
  exact Mine.law_walk
