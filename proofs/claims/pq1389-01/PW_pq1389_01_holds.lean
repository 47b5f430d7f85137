import PyProof.Rows.All
import Wide.All
import OpenK.AllK
import Wide.FinOn
import PySem.Challenge.RW_pq1389_01
open PySem PySem.W PySem.Spec PySem.Calls PyProof.Rows
set_option Elab.async false
set_option maxRecDepth 100000
set_option maxHeartbeats 16000000

namespace Mine
open_top hd for PySem.Challenge.rw_pq1389_01
end Mine

namespace Mine

def ShellC (prog : Program) (w : World) (K : Frag) (p : Program) (loose : List Str) (mean : ExcName → Option Value) (mg mb : Str → Option Value) : Prop :=
  ∀ (dp un : Nat) (gd : Option (List Code)) (cn : Str) (cs : Scope) (a : Addr) (ccd : Value) (cl : List (Str × Addr)) (outer : List Env) (A₀ : Around) (base h₀ : Heap) (L : Addr) (m : Str → Option Value) (s : Shared) (Q E : Value → Shared → Prop)
    (l : Addr) (us : List Value) (ns : List Int) (n : Nat) (rest : List (Addr × Obj)) (k : Int) (t : Tok),
    Below A₀ base outer h₀ → Fr h₀ L s.heap m → K.In h₀ → News h₀ L s.heap ((l, listOf us.toArray n) :: rest) → Top p loose mean mg mb h₀ → cs.kind = .function →
    (∀ q ∈ rest, q.1 ≠ l) → IntsAre us ns → ns.length < 2000 → 0 < k → dp + 1 < recursionLimit → un + 100 < cLine →
    (∀ (r : Int) (t' : Tok) (us' : List Value) (ns' : List Int) (n' : Nat) (h' : Heap) (tk' : Nat), 0 ≤ r → r < k → IntsAre us' ns' → ns'.length ≤ ns.length → Fr h₀ L h' m → News h₀ L h' ((l, listOf us'.toArray n') :: rest) → Q (.int r t') { s with heap := h', toks := tk' }) →
    wpAny (model prog w) (ktrTop dp un gd cn cs L a ccd cl outer) (call (.ref 35) [.ref l, .int k t]) Q E s

theorem isL {h₀ h : Heap} {L l : Addr} {us : List Value} {n : Nat} {news : List (Addr × Obj)} (N : News h₀ L h news) (hm : (l, listOf us.toArray n) ∈ news) : h.IsList l us.toArray := ⟨_, (N _ hm).1, rfl, n, rfl⟩
theorem ne_nilK {prog : Program} {w : World} {A : Around} {E : Value → Shared → Prop} {s : Shared} {h₀ : Heap} {L a b : Addr} {vs : List Value} {ns : List Int} {n k : Nat} {news : List (Addr × Obj)} {Q : Value → Shared → Prop}
    (N : News h₀ L s.heap news) (hl : (a, listOf vs.toArray n) ∈ news) (hi : IntsAre vs ns) (hl' : (b, listOf #[] k) ∈ news) (hu : A.units + 64 < cLine)
    (h : Q (.bool (!decide (ns = []))) s) : wpAny (model prog w) A (compareOp .NotEq (.ref a) (.ref b)) Q E s :=
  ne_intsK (us := []) (ms := []) (isL N hl) hi (isL N hl') .nil hu h
theorem pop0K {prog : Program} {w : World} {A : Around} {E : Value → Shared → Prop} {s : Shared} {h₀ : Heap} {L D : Addr} {m : Str → Option Value} {news news' : List (Addr × Obj)} {n : Nat} {us : List Value} {ns : List Int} {u : Tok} {Q : Value → Shared → Prop}
    (F : Fr h₀ L s.heap m) (N : News h₀ L s.heap news) (U : Upd D (listOf us.toArray n) (listOf us.tail.toArray (n + 1)) news news') (hi : IntsAre us ns) (hne : ¬ ns = []) (hz : ns.length ≤ sizeLine)
    (h : ∀ h' x t, Fr h₀ L h' m → News h₀ L h' news' → IntsAre us.tail ns.tail → Q (.int x t) { s with heap := h' }) : wpAny (model prog w) A (call (.builtin "list.pop") [.ref D, .int 0 u]) Q E s := by
  have hl := hi.length
  cases hi with
  | nil => exact absurd rfl hne
  | cons x t r =>
    refine kl_popAt (k := 0) (p := []) F N (by rfl) ?_ ?_ U ?_ fun h' F' N' => h h' x t F' N' r
    · simp [seqIndex?]
    · rfl
    · simpa [hl] using hz
local macro_rules | `(tactic| walk_at "call builtin:list.pop") => `(tactic| (k_here; k_dflt (refine' pop0K ?F ?N ?U ?i ?l ?z ?_; (case F => k_asm); (case N => k_asm); (case U => k_upd); (case i => assumption); (case l => assumption); (case z => (rw [PySem.sizeLine_eq]; omega)); k_whole); intro h' x' t' F' N' hI'))
local macro_rules | `(tactic| k_all) => `(tactic| assumption)
local macro_rules | `(tactic| walk_at "compareOp NotEq ref ref") => `(tactic| (k_here; k_dflt (refine' ne_nilK ?k1 ?k2 ?k3 ?k4 ?k5 ?_; (case k1 => k_asm); (case k2 => k_mem); (case k3 => assumption); (case k4 => k_mem); (case k5 => ktr_units); k_whole)))
theorem shellC (w : World) (p : Program) (loose : List Str) (mean : ExcName → Option Value) (mg mb : Str → Option Value) : ShellC PySem.Challenge.rw_pq1389_01.row.prog w (Mine.hd.heap_39 w.params) p loose mean mg mb := by
  unfold ShellC
  k_fill
  w_top off
  intro dp un gd cn cs a ccd cl outer A₀ base h₀ L m s Q E l us ns n rest k t B F X N T hck hR hI hlen hk hd hu hret
  refine wpAny_call ?_
  k_dflt cell_enter
  k_steps
  · rename News h₀ L _ _ => kN
    exact hret 0 _ us ns _ _ _ (Int.le_refl 0) hk hI (Nat.le_refl _) (by assumption) fun q hq => kN q (.tail _ hq)
  · rename News h₀ L _ _ => kN
    rename IntsAre us.tail _ => hI2
    have e := Int.fmod_eq_emod_of_nonneg
    refine hret _ _ us.tail ns.tail _ _ _ ?_ ?_ hI2 ?_ (by assumption) fun q hq => kN q (.tail _ hq)
    · rw [Int.fmod_eq_emod_of_nonneg _ (Int.le_of_lt hk)]; exact Int.emod_nonneg _ (by omega)
    · rw [Int.fmod_eq_emod_of_nonneg _ (Int.le_of_lt hk)]; exact Int.emod_lt_of_pos _ hk
    · rw [List.length_tail]; omega
end Mine

namespace Mine
inductive Pick (l : Addr) (o : Obj) : List (Addr × Obj) → List (Addr × Obj) → Prop
  | head {r : List (Addr × Obj)} : (∀ p ∈ r, p.1 ≠ l) → Pick l o ((l, o) :: r) r
  | tail {p : Addr × Obj} {r r' : List (Addr × Obj)} : p.1 ≠ l → Pick l o r r' → Pick l o (p :: r) (p :: r')
theorem Pick.spec {l : Addr} {o : Obj} {news rest : List (Addr × Obj)} (P : Pick l o news rest) : (∀ p ∈ (l, o) :: rest, p ∈ news) ∧ ∀ p ∈ rest, p.1 ≠ l := by
  induction P with
  | head h => exact ⟨fun p hp => hp, h⟩
  | tail h _ ih =>
    obtain ⟨i1, i2⟩ := ih
    refine ⟨fun p hp => ?_, fun p hp => ?_⟩
    · rcases List.mem_cons.mp hp with rfl | hp
      · exact .tail _ (i1 _ (.head _))
      · rcases List.mem_cons.mp hp with rfl | hp
        · exact .head _
        · exact .tail _ (i1 _ (.tail _ hp))
    · rcases List.mem_cons.mp hp with rfl | hp
      · exact h
      · exact i2 p hp

theorem shell_use {prog : Program} {w : World} {K : Frag} {p : Program} {loose : List Str} {mean : ExcName → Option Value} {mg mb : Str → Option Value} (C : ShellC prog w K p loose mean mg mb)
    {dp un : Nat} {gd : Option (List Code)} {cn : Str} {cs : Scope} {a : Addr} {ccd : Value} {cl : List (Str × Addr)} {outer : List Env} {A₀ : Around} {base h₀ : Heap} {L : Addr} {m : Str → Option Value} {s : Shared} {Q E : Value → Shared → Prop}
    {l : Addr} {us : List Value} {ns : List Int} {n : Nat} {news rest : List (Addr × Obj)} {k : Int} {t : Tok}
    (B : Below A₀ base outer h₀) (F : Fr h₀ L s.heap m) (X : K.In h₀) (N : News h₀ L s.heap news) (T : Top p loose mean mg mb h₀) (hck : cs.kind = .function)
    (P : Pick l (listOf us.toArray n) news rest) (hI : IntsAre us ns) (hlen : ns.length < 2000) (hk : 0 < k) (hd : dp + 1 < recursionLimit) (hu : un + 100 < cLine)
    (ret : ∀ (r : Int) (t' : Tok) (us' : List Value) (ns' : List Int) (n' : Nat) (h' : Heap) (tk' : Nat), 0 ≤ r → r < k → IntsAre us' ns' → ns'.length ≤ ns.length → Fr h₀ L h' m → News h₀ L h' ((l, listOf us'.toArray n') :: rest) → Q (.int r t') { s with heap := h', toks := tk' }) :
    wpAny (model prog w) (ktrTop dp un gd cn cs L a ccd cl outer) (call (.ref 35) [.ref l, .int k t]) Q E s :=
  C _ _ _ _ _ _ _ _ _ _ _ _ _ _ _ _ _ _ _ _ _ _ _ _ B F X (fun q hq => N q (P.spec.1 q hq)) T hck P.spec.2 hI hlen hk hd hu ret

def SideC (prog : Program) (w : World) (K : Frag) (p : Program) (loose : List Str) (mean : ExcName → Option Value) (mg mb : Str → Option Value) : Prop :=
  ∀ (dp un : Nat) (gd : Option (List Code)) (cn : Str) (cs : Scope) (a : Addr) (ccd : Value) (cl : List (Str × Addr)) (outer : List Env) (A₀ : Around) (base h₀ : Heap) (L : Addr) (m : Str → Option Value) (s : Shared) (Q E : Value → Shared → Prop)
    (l : Addr) (us : List Value) (ns : List Int) (n : Nat) (rest : List (Addr × Obj)),
    Below A₀ base outer h₀ → Fr h₀ L s.heap m → K.In h₀ → News h₀ L s.heap ((l, listOf us.toArray n) :: rest) → Top p loose mean mg mb h₀ → cs.kind = .function →
    (∀ q ∈ rest, q.1 ≠ l) → IntsAre us ns → ns.length < 2000 → dp + 2 < recursionLimit → un + 200 < cLine →
    (∀ (us' : List Value) (ns' : List Int) (n' : Nat) (h' : Heap) (tk' : Nat), IntsAre us' ns' → ns'.length ≤ ns.length → Fr h₀ L h' m → News h₀ L h' ((l, listOf us'.toArray n') :: rest) → Q .none { s with heap := h', toks := tk' }) →
    (∀ (r : Int) (t' : Tok) (us' : List Value) (ns' : List Int) (n' : Nat) (h' : Heap) (tk' : Nat), -2147483648 < r → r < 2147483648 → IntsAre us' ns' → ns'.length ≤ ns.length → Fr h₀ L h' m → News h₀ L h' ((l, listOf us'.toArray n') :: rest) → Q (.int r t') { s with heap := h', toks := tk' }) →
    wpAny (model prog w) (ktrTop dp un gd cn cs L a ccd cl outer) (call (.ref 42) [.ref l]) Q E s

local macro_rules | `(tactic| k_all) => `(tactic| assumption)
local macro_rules | `(tactic| walk_at "call ref") => `(tactic| (k_here; k_dflt (refine' shell_use (shellC _ _ _ _ _ _) ?k1 ?k2 ?k3 ?k4 ?k5 ?k6 ?k7 ?k8 ?k9 ?k10 ?k11 ?k12 ?_; (case k1 => k_asm); (case k2 => k_asm); (case k3 => k_asm); (case k4 => k_asm); (case k5 => k_asm); (case k6 => first | exact rfl | assumption); (case k7 => first | exact Pick.head (by k_all) | exact Pick.tail (by k_ne) (Pick.head (by k_all))); (case k8 => assumption); (case k9 => omega); (case k10 => decide); (case k11 => ktr_room); (case k12 => ktr_units); k_whole); intro r' t' us' ns' n' h' tk' h0' hk' hI' hle' F' N'; (try dsimp only); (try k_sweep)))

theorem drop2 {h₀ h : Heap} {L : Addr} {p q : Addr × Obj} {r : List (Addr × Obj)} (N : News h₀ L h (p :: q :: r)) : News h₀ L h (p :: r) := fun x hx => by
  rcases List.mem_cons.mp hx with rfl | hx
  · exact N _ (.head _)
  · exact N _ (.tail _ (.tail _ hx))
theorem menu_bd {r : Int} (h0 : 0 ≤ r) (h1 : r < 7) : -2147483648 < [-1, 2147483647, -2147483647, -2147483646, 1, -2, 0].getD r.toNat 0 ∧ [-1, 2147483647, -2147483647, -2147483646, 1, -2, 0].getD r.toNat 0 < 2147483648 := by
  have h : r = 0 ∨ r = 1 ∨ r = 2 ∨ r = 3 ∨ r = 4 ∨ r = 5 ∨ r = 6 := by omega
  rcases h with rfl | rfl | rfl | rfl | rfl | rfl | rfl <;> decide
theorem pow_bdN : ∀ k : Nat, (1 : Int) ≤ 2 ^ k
  | 0 => by decide
  | k + 1 => by have := pow_bdN k; rw [Int.pow_succ]; omega
theorem pow_le30 : ∀ (d k : Nat), k + d = 30 → (2 : Int) ^ k ≤ 1073741824
  | 0, k, h => by have e : k = 30 := by omega
                  subst e; decide
  | d + 1, k, h => by
    have e := pow_le30 d (k + 1) (by omega)
    rw [Int.pow_succ] at e
    have := pow_bdN k
    omega
theorem pow_bd {r : Int} (h0 : 0 ≤ r) (h1 : r < 31) : (1 : Int) ≤ 2 ^ r.toNat ∧ (2 : Int) ^ r.toNat ≤ 1073741824 := ⟨pow_bdN _, pow_le30 (30 - r.toNat) _ (by omega)⟩
theorem sideC (w : World) (p : Program) (loose : List Str) (mean : ExcName → Option Value) (mg mb : Str → Option Value) : SideC PySem.Challenge.rw_pq1389_01.row.prog w (Mine.hd.heap_39 w.params) p loose mean mg mb := by
  unfold SideC
  k_fill
  w_top off
  intro dp un gd cn cs a ccd cl outer A₀ base h₀ L m s Q E l us ns n rest B F X N T hck hR hI hlen hd hu hret0 hret
  have hretI : ∀ {r : Int} {t' : Tok} {us' : List Value} {ns' : List Int} {n' : Nat} {h' : Heap} {tk' : Nat}, Fr h₀ L h' m → News h₀ L h' ((l, listOf us'.toArray n') :: rest) → IntsAre us' ns' → ns'.length ≤ ns.length → -2147483648 < r → r < 2147483648 → Q (.int r t') { s with heap := h', toks := tk' } :=
    fun F N hI hle a b => hret _ _ _ _ _ _ _ a b hI hle F N
  have hretN : ∀ {us' : List Value} {ns' : List Int} {n' : Nat} {h' : Heap} {tk' : Nat}, Fr h₀ L h' m → News h₀ L h' ((l, listOf us'.toArray n') :: rest) → IntsAre us' ns' → ns'.length ≤ ns.length → Q .none { s with heap := h', toks := tk' } :=
    fun F N hI hle => hret0 _ _ _ _ _ hI hle F N
  clear hret hret0
  refine wpAny_call ?_
  k_dflt cell_enter
  k_steps
  · exact hretI (by assumption) (by assumption) (by assumption) (by omega) (by omega) (by omega)
  · exact hretN (by assumption) (by assumption) (by assumption) (by omega)
  · exact hretI (by assumption) (by exact drop2 (by assumption)) (by assumption) (by omega) (by exact (menu_bd (by assumption) (by assumption)).1) (by exact (menu_bd (by assumption) (by assumption)).2)
  · exact hretI (by assumption) (by assumption) (by assumption) (by omega) (by have e := pow_bd (by assumption) (by assumption); omega) (by have e := pow_bd (by assumption) (by assumption); omega)
  · exact hretI (by assumption) (by assumption) (by assumption) (by omega) (by have e := pow_bd (by assumption) (by assumption); omega) (by have e := pow_bd (by assumption) (by assumption); omega)
  · exact hretI (by assumption) (by assumption) (by assumption) (by omega) (by rw [Int.fmod_eq_emod_of_nonneg _ (by decide)]; omega) (by rw [Int.fmod_eq_emod_of_nonneg _ (by decide)]; omega)
end Mine

namespace Mine
local macro_rules | `(tactic| walk_at "Mine idle 5") => `(tactic| skip)
local macro_rules | `(tactic| walk_at "Mine idle 4") => `(tactic| skip)
local macro_rules | `(tactic| walk_at "Mine idle 3") => `(tactic| skip)
local macro_rules | `(tactic| walk_at "Mine idle 2") => `(tactic| skip)
local macro_rules | `(tactic| walk_at "Mine idle 1") => `(tactic| skip)
local macro_rules | `(tactic| walk_at "Mine idle 0") => `(tactic| skip)
noncomputable def bitsL : Nat → Int → List Int
  | 0, _ => []
  | k + 1, r => r.fmod 2 :: bitsL k (r.fdiv 2)
def toU (a : Int) : Int := if 0 ≤ a then a else a + 4294967296
structure PlInv (a : Int) (k : Nat) (found : List Int) (rest : Int) : Prop where
  eq : ∀ d, k + d = 32 → found ++ bitsL d rest = bitsL 32 (toU a)
theorem PlInv.start1 {a : Int} (h : 0 ≤ a) : PlInv a 0 [] a := ⟨fun d e => by rw [show d = 32 by omega, toU, if_pos h]; rfl⟩
theorem PlInv.start2 {a : Int} (h : ¬ 0 ≤ a) : PlInv a 0 [] (a + 4294967296) := ⟨fun d e => by rw [show d = 32 by omega, toU, if_neg h]; rfl⟩
theorem PlInv.step {a : Int} {k : Nat} {found : List Int} {rest : Int} (h : PlInv a k found rest) (_hk : k < 32) : PlInv a (k + 1) (found ++ [rest.fmod 2]) (rest.fdiv 2) := ⟨fun d e => by
  have := h.eq (d + 1) (by omega)
  rw [bitsL] at this
  simpa using this⟩
theorem PlInv.done {a : Int} {found : List Int} {rest : Int} (h : PlInv a 32 found rest) : found = bitsL 32 (toU a) := by simpa [bitsL] using h.eq 0 rfl


/-- the end of a turn of the loop over 32 places -/
def PlEnd (h₀ : Heap) (L : Addr) (m₀ : Str → Option Value) (a : Int) (l : Addr) (news own : List (Addr × Obj)) (k : Nat) (s₁ : Shared) (f : Flow) (s₂ : Shared) : Prop :=
  f = .next ∧ ∃ (us : List Value) (found : List Int) (n : Nat) (rest : Int) (tr : Tok) (h' : Heap) (tk' : Nat) (m' : Str → Option Value), s₂ = { s₁ with heap := h', toks := tk' } ∧ Fr h₀ L h' m' ∧ News h₀ L h' ((l, listOf us.toArray n) :: (news ++ own)) ∧
    IntsAre us found ∧ found.length = k + 1 ∧ PlInv a (k + 1) found rest ∧ m' (Str.ofString "rest") = some (.int rest tr) ∧ ∀ z, z ≠ Str.ofString "place" → z ≠ Str.ofString "rest" → m' z = m₀ z

theorem places_loop {prog : Program} {w : World} {A : Around} {E : Value → Shared → Prop} {s : Shared} {env : Env} {h₀ : Heap} {body : List Stmt} {Q : Flow → Shared → Prop} {r l : Addr} {t₀ u₀ v₀ : Tok} {m₀ : Str → Option Value} {news : List (Addr × Obj)} {a R : Int} {tR : Tok}
    (hh : A.handled = none) (hr : IsRange s.heap r 0 32 1 t₀ u₀ v₀) (F : Fr h₀ env.locals s.heap m₀) (N : News h₀ env.locals s.heap ((l, listOf #[] 0) :: news)) (hlt : ∀ p ∈ news, p.1 < l) (hm : m₀ (Str.ofString "rest") = some (.int R tR)) (hP : PlInv a 0 [] R)
    (turn : ∀ (k : Int) (t : Tok) (us : List Value) (found : List Int) (n : Nat) (rest : Int) (tr : Tok) (h : Heap) (tk : Nat) (own : List (Addr × Obj)), found.length < 32 → IntsAre us found → PlInv a found.length found rest → (∀ p ∈ news ++ own, p.1 ≠ l) →
      Fr h₀ env.locals h (fun y => if y = Str.ofString "place" then some (.int k t) else if y = Str.ofString "rest" then some (.int rest tr) else m₀ y) → News h₀ env.locals h ((l, listOf us.toArray n) :: (news ++ own)) →
      wpAny (model prog w) A (execs body env) (fun f s₂ => PlEnd h₀ env.locals m₀ a l news own found.length { s with heap := h, toks := tk } f s₂) E { s with heap := h, toks := tk })
    (done : ∀ (us : List Value) (n : Nat) (rest : Int) (tr : Tok) (u : Option Value) (h : Heap) (tk : Nat), IntsAre us (bitsL 32 (toU a)) → Fr h₀ env.locals h (fun y => if y = Str.ofString "place" then u else if y = Str.ofString "rest" then some (.int rest tr) else m₀ y) →
      News h₀ env.locals h ((l, listOf us.toArray n) :: news) → Q .next { s with heap := h, toks := tk }) :
    wpAny (model prog w) A (pyIter (.ref r)) (fun it s₂ => LoopAtV prog w A h₀ env (Str.ofString "place") body Q E it s₂) E s := by
  refine kst_range (σ := List Value × List Int × Nat × Int × Tok) (n := 32) (x := Str.ofString "place") (fun c => (l, listOf c.1.toArray c.2.2.1) :: news) (fun c => [(Str.ofString "rest", .int c.2.2.2.1 c.2.2.2.2)]) (fun c => IntsAre c.1 c.2.1) []
    (fun pre c => c.2.1.length = pre.length ∧ PlInv a pre.length c.2.1 c.2.2.2.1) ([], [], 0, R, tR) hh hr (by decide) (by rfl) F N .nil ?_ ⟨rfl, hP⟩ ?_ ?_
  · intro p hp
    rcases List.mem_cons.mp hp with rfl | hp
    · exact hm
    · cases hp
  · rintro ⟨us, found, n, rest, tr⟩ pre k t u h tk own hk hlt' hoff hf ⟨hl, hI⟩ F₁ N₁
    dsimp only at hl hI hf F₁ N₁ ⊢
    refine wpAny_mono (turn k t us found n rest tr h tk own (by omega) hf (by rw [hl]; exact hI) ?_ F₁ N₁) ?_ fun _ _ e => e
    · intro p hp
      rcases List.mem_append.mp hp with hp | hp
      · exact Nat.ne_of_lt (hlt p hp)
      · exact hoff p hp l (.head _)
    · rintro f s₂ ⟨rfl, us', found', n', rest', tr', h', tk', m', rfl, F', N', hf', hl', hP', hm', hz⟩
      show InvEndN _ _ _ _ _ _ _
      refine kst_end (us', found', n', rest', tr') F' N' (fun p hp => ?_) (fun p hp => ?_) rfl hf' (fun p hp => ?_) (fun z h1 h2 _ => hz z h1 (h2 _ (.head _))) ⟨?_, ?_⟩
      · rcases List.mem_cons.mp hp with rfl | hp
        · exact .head _
        · exact .tail _ (List.mem_append_left _ hp)
      · exact .tail _ (List.mem_append_right _ hp)
      · rcases List.mem_cons.mp hp with rfl | hp
        · exact hm'
        · cases hp
      · rw [List.length_append, hl', hl]; rfl
      · rw [List.length_append, ← hl]; exact hP'
  · rintro ⟨us, found, n, rest, tr⟩ u h tk hf ⟨hl, hI⟩ F₁ N₁
    dsimp only at hl hI hf F₁ N₁
    rw [rangeKs_length] at hl hI
    refine done us n rest tr (u (Str.ofString "place")) h tk (hI.done ▸ hf) ?_ N₁
    have e : (fun y => if y = Str.ofString "place" then u (Str.ofString "place") else if y = Str.ofString "rest" then some (Value.int rest tr) else m₀ y) =
        fun y => if y = Str.ofString "place" then u y else kstB (fun z => if ([] : List Str).contains z then u z else m₀ z) [(Str.ofString "rest", Value.int rest tr)] y := by
      funext y
      by_cases h1 : y = Str.ofString "place"
      · rw [if_pos h1, if_pos h1, h1]
      · rw [if_neg h1, if_neg h1]; rfl
    rw [e]
    exact F₁

theorem PlEnd.intro {h₀ h' : Heap} {L : Addr} {m₀ m' : Str → Option Value} {a : Int} {l : Addr} {news own : List (Addr × Obj)} {s₁ : Shared} {us : List Value} {found : List Int} {n : Nat} {rest : Int} {t tr : Tok} {tk' : Nat}
    (F : Fr h₀ L h' m') (N : News h₀ L h' ((l, listOf (us.toArray.push (.int (rest.fmod 2) t)) n) :: (news ++ own))) (hi : IntsAre us found) (hI : PlInv a found.length found rest) (hlt : found.length < 32) (hm : m' (Str.ofString "rest") = some (.int (rest.fdiv 2) tr))
    (hz : ∀ z, z ≠ Str.ofString "place" → z ≠ Str.ofString "rest" → m' z = m₀ z) : PlEnd h₀ L m₀ a l news own found.length s₁ .next { s₁ with heap := h', toks := tk' } := by
  rw [List.push_toArray] at N
  exact ⟨rfl, _, found ++ [rest.fmod 2], _, rest.fdiv 2, tr, h', tk', m', rfl, F, N, hi.append (.cons _ _ .nil), by rw [List.length_append]; rfl, hI.step hlt, hm, hz⟩

def PlacesC (prog : Program) (w : World) (K : Frag) (p : Program) (loose : List Str) (mean : ExcName → Option Value) (mg mb : Str → Option Value) : Prop :=
  ∀ (dp un : Nat) (gd : Option (List Code)) (cn : Str) (cs : Scope) (ca : Addr) (ccd : Value) (cl : List (Str × Addr)) (outer : List Env) (A₀ : Around) (base h₀ : Heap) (L : Addr) (m : Str → Option Value) (s : Shared) (Q E : Value → Shared → Prop)
    (news : List (Addr × Obj)) (a : Int) (ta : Tok),
    Below A₀ base outer h₀ → Fr h₀ L s.heap m → K.In h₀ → News h₀ L s.heap news → Top p loose mean mg mb h₀ → cs.kind = .function →
    -2147483648 ≤ a → a < 2147483648 → dp + 1 < recursionLimit → un + 100 < cLine →
    (∀ (l : Addr) (us : List Value) (n' : Nat) (h' : Heap) (tk' : Nat), Fr h₀ L h' m → News h₀ L h' ((l, listOf us.toArray n') :: news) → (∀ q ∈ news, q.1 < l) → IntsAre us (bitsL 32 (toU a)) → Q (.ref l) { s with heap := h', toks := tk' }) →
    wpAny (model prog w) (ktrTop dp un gd cn cs L ca ccd cl outer) (call (.ref 49) [.int a ta]) Q E s


local macro_rules | `(tactic| k_all) => `(tactic| assumption)
local macro_rules | `(tactic| walk_at "pyIter ref") => `(tactic| (k_here; k_dflt ((rename Fr _ _ _ _ => lF'); (rename News _ _ _ _ => lN'); (rename IsRange _ _ _ _ _ _ _ _ => rgX); (rename ∀ (p : Addr × Obj), p ∈ _ → p.1 < _ => hlt'); (with_unfolding_all refine' places_loop ?hh rgX lF' lN' hlt' ?hm ?hP ?_ ?_); (case hh => rfl); (case hm => rfl); (case hP => first | exact PlInv.start1 (by assumption) | exact PlInv.start2 (by assumption)); (all_goals (clear lF' lN')); (all_goals intros); (all_goals (try k_fold)))))
local macro_rules | `(tactic| k_lt $h) => `(tactic| skip)

theorem placesC (w : World) (p : Program) (loose : List Str) (mean : ExcName → Option Value) (mg mb : Str → Option Value) : PlacesC PySem.Challenge.rw_pq1389_01.row.prog w (Mine.hd.heap_39 w.params) p loose mean mg mb := by
  unfold PlacesC
  k_fill
  w_top off
  intro dp un gd cn cs ca ccd cl outer A₀ base h₀ L m s Q E news a ta B F X N T hck h1 h2 hd hu hret
  refine wpAny_call ?_
  k_dflt cell_enter
  k_steps
  all_goals first
    | exact hret _ _ _ _ _ (by assumption) (by assumption) (by assumption) (by assumption)
    | exact PlEnd.intro (by assumption) (by assumption) (by assumption) (by assumption) (by assumption) (by rfl) (by intro z h1 h2; simp only [if_neg h1, if_neg h2])
end Mine

namespace Mine
noncomputable def sh : Nat → Int → Int
  | 0, x => x
  | i + 1, x => sh i (x.fdiv 2)
theorem sh_succ : ∀ (i : Nat) (x : Int), sh (i + 1) x = (sh i x).fdiv 2
  | 0, _ => rfl
  | i + 1, x => by
    show sh (i + 1) (x.fdiv 2) = (sh i (x.fdiv 2)).fdiv 2
    exact sh_succ i _
/-- the sum over k places of what f says of the two bits -/
noncomputable def bsum (f : Int → Int → Int) : Nat → Int → Int → Int
  | 0, _, _ => 0
  | k + 1, x, y => f (x.fmod 2) (y.fmod 2) + 2 * bsum f k (x.fdiv 2) (y.fdiv 2)
theorem fmod2 (x : Int) : x.fmod 2 = x % 2 := Int.fmod_eq_emod_of_nonneg _ (by decide)
theorem fdiv2 (x : Int) : x.fdiv 2 = x / 2 := Int.fdiv_eq_ediv_of_nonneg _ (by decide)
theorem two_pos (k : Nat) : (0 : Int) < 2 ^ k := kbt_pos k
theorem bsum_mod (f op : Int → Int → Int) (hop : ∀ x y, op x y = 2 * op (x / 2) (y / 2) + f (x % 2) (y % 2)) (h01 : ∀ x y, 0 ≤ f (x % 2) (y % 2) ∧ f (x % 2) (y % 2) ≤ 1) :
    ∀ (k : Nat) (x y : Int), bsum f k x y = op x y % 2 ^ k
  | 0, x, y => by rw [bsum, Int.pow_zero, Int.emod_one]
  | k + 1, x, y => by
    rw [bsum, bsum_mod f op hop h01 k, hop x y, fmod2, fmod2, fdiv2, fdiv2, Int.pow_succ]
    have hb := h01 x y
    have hp := two_pos k
    generalize op (x / 2) (y / 2) = A
    generalize f (x % 2) (y % 2) = b at hb
    have h1 := Int.emod_nonneg A (show (2 : Int) ^ k ≠ 0 by omega)
    have h2 := Int.emod_lt_of_pos A hp
    have h3 := Int.emod_def A (2 ^ k)
    refine ((kbt_unique (show (0 : Int) < 2 ^ k * 2 by omega) (q := A / 2 ^ k) ?_ (by omega) (by omega)).2).symm
    have e : (2 : Int) ^ k * 2 * (A / 2 ^ k) = 2 * (2 ^ k * (A / 2 ^ k)) := by rw [Int.mul_comm (2 ^ k) 2, Int.mul_assoc]
    rw [e]
    omega
theorem bsum_shiftL (f : Int → Int → Int) : ∀ (k : Nat) (x y : Int), bsum f k (x + 2 ^ k) y = bsum f k x y
  | 0, _, _ => rfl
  | k + 1, x, y => by
    have e1 : (x + 2 ^ (k + 1)).fmod 2 = x.fmod 2 := by rw [fmod2, fmod2, Int.pow_succ]; omega
    have e2 : (x + 2 ^ (k + 1)).fdiv 2 = x.fdiv 2 + 2 ^ k := by rw [fdiv2, fdiv2, Int.pow_succ]; omega
    rw [bsum, bsum, e1, e2, bsum_shiftL f k]
theorem bsum_shiftR (f : Int → Int → Int) : ∀ (k : Nat) (x y : Int), bsum f k x (y + 2 ^ k) = bsum f k x y
  | 0, _, _ => rfl
  | k + 1, x, y => by
    have e1 : (y + 2 ^ (k + 1)).fmod 2 = y.fmod 2 := by rw [fmod2, fmod2, Int.pow_succ]; omega
    have e2 : (y + 2 ^ (k + 1)).fdiv 2 = y.fdiv 2 + 2 ^ k := by rw [fdiv2, fdiv2, Int.pow_succ]; omega
    rw [bsum, bsum, e1, e2, bsum_shiftR f k]
theorem op_range (op f : Int → Int → Int) (hop : ∀ x y, op x y = 2 * op (x / 2) (y / 2) + f (x % 2) (y % 2)) (h01 : ∀ x y, 0 ≤ f (x % 2) (y % 2) ∧ f (x % 2) (y % 2) ≤ 1)
    (h0 : ∀ x y : Int, (x = 0 ∨ x = -1) → (y = 0 ∨ y = -1) → op x y = 0 ∨ op x y = -1) :
    ∀ (k : Nat) (x y : Int), -2 ^ k ≤ x → x < 2 ^ k → -2 ^ k ≤ y → y < 2 ^ k → -2 ^ k ≤ op x y ∧ op x y < 2 ^ k
  | 0, x, y, a, b, c, d => by
    rw [Int.pow_zero] at *
    rcases h0 x y (by omega) (by omega) with h | h <;> rw [h] <;> omega
  | k + 1, x, y, a, b, c, d => by
    rw [Int.pow_succ] at *
    have ih := op_range op f hop h01 h0 k (x / 2) (y / 2) (by omega) (by omega) (by omega) (by omega)
    have hb := h01 x y
    rw [hop x y]
    omega

def fAnd (a b : Int) : Int := if a + b = 2 then 1 else 0
def fOr (a b : Int) : Int := if a + b > 0 then 1 else 0
def fXor (a b : Int) : Int := if a ≠ b then 1 else 0
theorem hAnd (x y : Int) : Builtin.bitAnd x y = 2 * Builtin.bitAnd (x / 2) (y / 2) + fAnd (x % 2) (y % 2) := by
  rw [kbt_halves x y, fAnd]
  by_cases h : x % 2 + y % 2 = 2
  · rw [if_pos h, if_pos (by omega)]
  · rw [if_neg h, if_neg (by omega)]
theorem hOr (x y : Int) : Builtin.bitOr x y = 2 * Builtin.bitOr (x / 2) (y / 2) + fOr (x % 2) (y % 2) := by
  rw [bitOr_and, bitOr_and, kbt_halves x y, fOr]
  by_cases h : x % 2 + y % 2 > 0 <;> by_cases h2 : x % 2 = 1 ∧ y % 2 = 1
  · rw [if_pos h, if_pos h2]; omega
  · rw [if_pos h, if_neg h2]; omega
  · rw [if_neg h, if_pos h2]; omega
  · rw [if_neg h, if_neg h2]; omega
theorem hXor (x y : Int) : Builtin.bitXor x y = 2 * Builtin.bitXor (x / 2) (y / 2) + fXor (x % 2) (y % 2) := by
  rw [bitXor_and, bitXor_and, kbt_halves x y, fXor]
  by_cases h : x % 2 ≠ y % 2 <;> by_cases h2 : x % 2 = 1 ∧ y % 2 = 1
  · rw [if_pos h, if_pos h2]; omega
  · rw [if_pos h, if_neg h2]; omega
  · rw [if_neg h, if_pos h2]; omega
  · rw [if_neg h, if_neg h2]; omega

/-- an operation upon ints and what it does with two bits -/
structure BitOp (op f : Int → Int → Int) : Prop where
  hop : ∀ x y, op x y = 2 * op (x / 2) (y / 2) + f (x % 2) (y % 2)
  h01 : ∀ x y, 0 ≤ f (x % 2) (y % 2) ∧ f (x % 2) (y % 2) ≤ 1
  h0 : ∀ x y : Int, (x = 0 ∨ x = -1) → (y = 0 ∨ y = -1) → op x y = 0 ∨ op x y = -1
theorem opAnd : BitOp Builtin.bitAnd fAnd := ⟨hAnd, fun x y => by unfold fAnd; split <;> omega, by rintro x y (rfl | rfl) (rfl | rfl) <;> decide +kernel⟩
theorem opOr : BitOp Builtin.bitOr fOr := ⟨hOr, fun x y => by unfold fOr; split <;> omega, by rintro x y (rfl | rfl) (rfl | rfl) <;> decide +kernel⟩
theorem opXor : BitOp Builtin.bitXor fXor := ⟨hXor, fun x y => by unfold fXor; split <;> omega, by rintro x y (rfl | rfl) (rfl | rfl) <;> decide +kernel⟩
theorem BitOp.range {op f : Int → Int → Int} (o : BitOp op f) {x y : Int} (a : -2147483648 ≤ x) (b : x < 2147483648) (c : -2147483648 ≤ y) (d : y < 2147483648) : -2147483648 ≤ op x y ∧ op x y < 2147483648 :=
  op_range op f o.hop o.h01 o.h0 31 x y a b c d
end Mine

namespace Mine
theorem bitsL_get : ∀ (n i : Nat) (x a : Int), (bitsL n x)[i]? = some a → i < n ∧ a = (sh i x).fmod 2
  | 0, _, _, _, h => by simp [bitsL] at h
  | n + 1, 0, x, a, h => by
    rw [bitsL] at h
    simp at h
    exact ⟨by omega, h.symm⟩
  | n + 1, i + 1, x, a, h => by
    rw [bitsL, List.getElem?_cons_succ] at h
    have := bitsL_get n i (x.fdiv 2) a h
    exact ⟨by omega, this.2⟩
theorem bitsL_len : ∀ (n : Nat) (x : Int), (bitsL n x).length = n
  | 0, _ => rfl
  | n + 1, x => by rw [bitsL, List.length_cons, bitsL_len n]

def ZipAt (h₀ : Heap) (L : Addr) (h : Heap) (news : List (Addr × Obj)) (z l1 l2 : Addr) (us1 us2 : List Value) : Prop :=
  ∃ TI TO i1 i2, ZipApart z TI TO i1 i2 l1 l2 ∧ (IsZip h z TI TO .none ∧ IsPair h TI (.ref i1) (.ref i2) ∧ (∃ a b, IsPair h TO a b) ∧ h.IsListIter i1 l1 0 ∧ h.IsListIter i2 l2 0 ∧ h.IsList l1 us1.toArray ∧ h.IsList l2 us2.toArray) ∧
    L ∉ [z, TI, TO, i1, i2, l1, l2] ∧ (∀ b ∈ [z, TO, i1, i2], h₀.get? b = none) ∧ ∀ p ∈ news, p.1 ∉ [z, TO, i1, i2]
section
variable {prog : Program} {w : World} {A : Around} {E : Value → Shared → Prop} {s : Shared} {env : Env} {h₀ : Heap} {m₀ : Str → Option Value} {news : List (Addr × Obj)} {l1 l2 z : Addr} {us1 us2 : List Value} {n1 n2 : Nat}
theorem zipK {L : Addr} {Q : Value → Shared → Prop} (F : Fr h₀ L s.heap m₀) (N : News h₀ L s.heap news) (m1 : (l1, listOf us1.toArray n1) ∈ news) (m2 : (l2, listOf us2.toArray n2) ∈ news)
    (h : ∀ z h', Fr h₀ L h' m₀ → News h₀ L h' news → ZipAt h₀ L h' news z l1 l2 us1 us2 → Q (.ref z) { s with heap := h' }) : wpAny (model prog w) A (call (.type "zip") [.ref l1, .ref l2]) Q E s := by
  refine zip_rows F (isL N m1) (isL N m2) fun h' z TI TO i1 i2 D st F' hk hz hTO hi1 hi2 hL => ?_
  have old : ∀ p ∈ news, ∀ b, s.heap.objs.size ≤ b → p.1 ≠ b := fun p hp b hb e => Nat.lt_irrefl _ (Nat.lt_of_lt_of_le (Heap.lt_size (N p hp).1) (e ▸ hb))
  have fresh : ∀ b, L < b → h₀.get? b = none := fun b hb => Heap.get?_none_of_le (Nat.le_of_lt (Nat.lt_of_le_of_lt F.above hb))
  refine h z h' F' (fun p hp => ⟨hk _ _ (N p hp).1, (N p hp).2⟩) ⟨TI, TO, i1, i2, D, st, ?_, ?_, ?_⟩
  · have hTI : L ≠ TI := fun e => by
      obtain ⟨o, es, ep, ho, hd, _⟩ := F'.ns
      have q := st.2.1
      unfold IsPair at q
      rw [← e, ho] at q
      cases q
      cases hd
    simp only [List.mem_cons, List.not_mem_nil, or_false]
    rintro (e | e | e | e | e | e | e)
    · exact Nat.ne_of_lt hL.1 e
    · exact hTI e
    · exact Nat.ne_of_lt hL.2.1 e
    · exact Nat.ne_of_lt hL.2.2.1 e
    · exact Nat.ne_of_lt hL.2.2.2 e
    · exact (N _ m1).2.1 e.symm
    · exact (N _ m2).2.1 e.symm
  · simp only [List.mem_cons, List.not_mem_nil, or_false]
    rintro b (rfl | rfl | rfl | rfl)
    · exact fresh _ hL.1
    · exact fresh _ hL.2.1
    · exact fresh _ hL.2.2.1
    · exact fresh _ hL.2.2.2
  · intro p hp
    simp only [List.mem_cons, List.not_mem_nil, or_false]
    rintro (e | e | e | e)
    · exact old p hp _ hz e
    · exact old p hp _ hTO e
    · exact old p hp _ hi1 e
    · exact old p hp _ hi2 e

/-- the end of a turn: total and weight as said, the rest of the frame as it stood, the ledger too -/
def ZEnd (h₀ : Heap) (L : Addr) (m₀ : Str → Option Value) (led : List (Addr × Obj)) (T' W' : Int) (s₁ : Shared) (fl : Flow) (s₂ : Shared) : Prop :=
  fl = .next ∧ ∃ (h' : Heap) (tk' : Nat) (m' : Str → Option Value) (tT tW : Tok), s₂ = { s₁ with heap := h', toks := tk' } ∧ Fr h₀ L h' m' ∧ News h₀ L h' led ∧ m' (Str.ofString "total") = some (.int T' tT) ∧ m' (Str.ofString "weight") = some (.int W' tW) ∧
    ∀ z, z ≠ Str.ofString "one" → z ≠ Str.ofString "two" → z ≠ Str.ofString "total" → z ≠ Str.ofString "weight" → m' z = m₀ z
def zM (m₀ : Str → Option Value) (u v : Option Value) (T : Int) (tT : Tok) (W : Int) (tW : Tok) : Str → Option Value :=
  fun z => if z = Str.ofString "two" then u else if z = Str.ofString "one" then v else if z = Str.ofString "total" then some (.int T tT) else if z = Str.ofString "weight" then some (.int W tW) else m₀ z

def zipJ (f : Int → Int → Int) (X Y : Int) (m₀ : Str → Option Value) (news : List (Addr × Obj)) (i : Nat) (m : Str → Option Value) (nx : List (Addr × Obj)) : Prop :=
  nx = news ∧ ∃ (T W : Int) (tT tW : Tok), m (Str.ofString "total") = some (.int T tT) ∧ m (Str.ofString "weight") = some (.int W tW) ∧ (∀ z, z ≠ Str.ofString "one" → z ≠ Str.ofString "two" → z ≠ Str.ofString "total" → z ≠ Str.ofString "weight" → m z = m₀ z) ∧
    ∀ d, i + d = 32 → T + W * bsum f d (sh i X) (sh i Y) = bsum f 32 X Y

theorem told_loop {f : Int → Int → Int} {X Y : Int} {body : List Stmt} {Q : Flow → Shared → Prop} {t0 w0 : Tok}
    (hh : A.handled = none) (Z : ZipAt h₀ env.locals s.heap news z l1 l2 us1 us2) (hi1 : IntsAre us1 (bitsL 32 X)) (hi2 : IntsAre us2 (bitsL 32 Y)) (F : Fr h₀ env.locals s.heap m₀) (N : News h₀ env.locals s.heap news)
    (ht : m₀ (Str.ofString "total") = some (.int 0 t0)) (hw : m₀ (Str.ofString "weight") = some (.int 1 w0))
    (turn : ∀ (x y : Int) (tx ty : Tok) (T W : Int) (tT tW : Tok) (h : Heap) (tk : Nat) (own : List (Addr × Obj)), (x = 0 ∨ x = 1) → (y = 0 ∨ y = 1) →
      Fr h₀ env.locals h (fun z => if z = Str.ofString "two" then some (.int y ty) else if z = Str.ofString "one" then some (.int x tx) else if z = Str.ofString "total" then some (.int T tT) else if z = Str.ofString "weight" then some (.int W tW) else m₀ z) →
      News h₀ env.locals h (own ++ news) →
      wpAny (model prog w) A (execs body env) (fun fl s₂ => ZEnd h₀ env.locals m₀ (own ++ news) (T + W * f x y) (W + W) { s with heap := h, toks := tk } fl s₂) E { s with heap := h, toks := tk })
    (done : ∀ (T : Int) (tT : Tok) (W : Int) (tW : Tok) (u v : Option Value) (h : Heap) (tk : Nat), T = bsum f 32 X Y →
      Fr h₀ env.locals h (fun z => if z = Str.ofString "two" then u else if z = Str.ofString "one" then v else if z = Str.ofString "total" then some (.int T tT) else if z = Str.ofString "weight" then some (.int W tW) else m₀ z) →
      News h₀ env.locals h news → Q .next { s with heap := h, toks := tk }) :
    wpAny (model prog w) A (pyIter (.ref z)) (fun it s₂ => PairAt3 prog w A h₀ env (Str.ofString "one") (Str.ofString "two") body Q E it s₂) E s := by
  obtain ⟨TI, TO, i1, i2, D, hst, hLf, hwr, hnw⟩ := Z
  have W := WalksT.zip2 (prog := prog) (w := w) hh z TI TO i1 i2 l1 l2 D us1.toArray us2.toArray
  refine W.self 0 _ _ _ hst ?_
  have hn : min us1.toArray.size us2.toArray.size = 32 := by simp [hi1.length, hi2.length, bitsL_len]
  rw [hn] at W
  have fr : ∀ {m : Str → Option Value} {T W : Int} {tT tW : Tok} {u v : Option Value}, m (Str.ofString "total") = some (.int T tT) → m (Str.ofString "weight") = some (.int W tW) →
      (∀ z, z ≠ Str.ofString "one" → z ≠ Str.ofString "two" → z ≠ Str.ofString "total" → z ≠ Str.ofString "weight" → m z = m₀ z) →
      (fun y => if y = Str.ofString "two" then u else if y = Str.ofString "one" then v else m y) =
        (fun z => if z = Str.ofString "two" then u else if z = Str.ofString "one" then v else if z = Str.ofString "total" then some (.int T tT) else if z = Str.ofString "weight" then some (.int W tW) else m₀ z) := by
    intro m T W tT tW u v h1 h2 h3
    funext y
    by_cases a : y = Str.ofString "two"
    · rw [if_pos a, if_pos a]
    · rw [if_neg a, if_neg a]
      by_cases b : y = Str.ofString "one"
      · rw [if_pos b, if_pos b]
      · rw [if_neg b, if_neg b]
        by_cases c : y = Str.ofString "total"
        · rw [if_pos c, c]; exact h1
        · rw [if_neg c]
          by_cases d : y = Str.ofString "weight"
          · rw [if_pos d, d]; exact h2
          · rw [if_neg d]; exact h3 y b a c d
  refine ⟨z, [z, TI, TO, i1, i2, l1, l2], [z, TO, i1, i2], _, _, _, _, (fun i v0 v1 => ∃ a b ta tb, v0 = .int a ta ∧ v1 = .int b tb ∧ a = (sh i X).fmod 2 ∧ b = (sh i Y).fmod 2 ∧ i < 32), m₀, news, zipJ f X Y m₀ news, rfl, W, ?_, hLf, hwr, hnw, hst, F, N, ⟨rfl, 0, 1, t0, w0, ht, hw, fun _ _ _ _ _ => rfl, fun d hd => ?_⟩, ?_, ?_⟩
  · rintro i vals ⟨x, y, hx, hy, rfl⟩
    have li1 := hi1.length
    have hx' : us1[i]? = some x := by simpa using hx
    have hy' : us2[i]? = some y := by simpa using hy
    have hxl : i < (bitsL 32 X).length := by
      have := (List.getElem?_eq_some_iff.mp hx').1
      rw [← hi1.length]; exact this
    have hyl : i < (bitsL 32 Y).length := by
      have := (List.getElem?_eq_some_iff.mp hy').1
      rw [← hi2.length]; exact this
    obtain ⟨tx, ex⟩ := hi1.get i (bitsL 32 X)[i] (List.getElem?_eq_getElem hxl)
    obtain ⟨ty, ey⟩ := hi2.get i (bitsL 32 Y)[i] (List.getElem?_eq_getElem hyl)
    have b1 := bitsL_get 32 i X (bitsL 32 X)[i] (List.getElem?_eq_getElem hxl)
    have b2 := bitsL_get 32 i Y (bitsL 32 Y)[i] (List.getElem?_eq_getElem hyl)
    rw [ex] at hx'
    rw [ey] at hy'
    exact ⟨x, y, rfl, _, _, tx, ty, (Option.some.inj hx').symm, (Option.some.inj hy').symm, b1.2, b2.2, b1.1⟩
  · rw [show d = 32 by omega]
    show 0 + 1 * bsum f 32 X Y = _
    rw [Int.one_mul, Int.zero_add]
  · rintro i v0 v1 m₁ news₁ s₁ own ⟨hh₁, tk₁, rfl⟩ hlt ⟨a, b, ta, tb, rfl, rfl, ea, eb, hi32⟩ ⟨rfl, T, Wt, tT, tW, h1, h2, h3, hI⟩ hmap hown F₁ N₁
    rw [fr h1 h2 h3] at F₁
    have ha : a = 0 ∨ a = 1 := by rw [ea, fmod2]; omega
    have hb : b = 0 ∨ b = 1 := by rw [eb, fmod2]; omega
    refine wpAny_mono (turn a b ta tb T Wt tT tW hh₁ tk₁ own ha hb F₁ N₁) ?_ fun _ _ e => e
    rintro fl s₂ ⟨rfl, h', tk', m', tT', tW', rfl, F', N', h1', h2', h3'⟩
    refine ⟨rfl, h', tk', m', news₁, rfl, F', N', rfl, rfl, _, _, tT', tW', h1', h2', h3', fun d hd => ?_⟩
    have e := hI (d + 1) (by omega)
    rw [bsum, ← ea, ← eb, ← sh_succ, ← sh_succ, Int.mul_add] at e
    rw [← e]
    rw [← Int.mul_assoc, Int.mul_comm Wt 2, show Wt + Wt = 2 * Wt by omega]
    omega
  · rintro h' tk m' news' F' N' _ ⟨rfl, T, Wt, tT, tW, h1, h2, h3, hI⟩
    have e := hI 0 rfl
    rw [bsum, Int.mul_zero, Int.add_zero] at e
    refine done T tT Wt tW (m' (Str.ofString "two")) (m' (Str.ofString "one")) h' tk e ?_ N'
    rw [← fr h1 h2 h3]
    have em : (fun y => if y = Str.ofString "two" then m' (Str.ofString "two") else if y = Str.ofString "one" then m' (Str.ofString "one") else m' y) = m' := by
      funext y
      by_cases a : y = Str.ofString "two"
      · rw [if_pos a, a]
      · rw [if_neg a]
        by_cases b : y = Str.ofString "one"
        · rw [if_pos b, b]
        · rw [if_neg b]
    rw [em]
    exact F'
end
end Mine

namespace Mine
theorem toU_told {op f : Int → Int → Int} (o : BitOp op f) {a b : Int} (_ha : -2147483648 ≤ a) (_hb : -2147483648 ≤ b) : bsum f 32 (toU a) (toU b) = op a b % 4294967296 := by
  have e : bsum f 32 a b = op a b % 4294967296 := bsum_mod f op o.hop o.h01 32 a b
  rw [← e]
  have l : ∀ x y : Int, bsum f 32 (x + 4294967296) y = bsum f 32 x y := fun x y => bsum_shiftL f 32 x y
  have r : ∀ x y : Int, bsum f 32 x (y + 4294967296) = bsum f 32 x y := fun x y => bsum_shiftR f 32 x y
  unfold toU
  split <;> split
  · rfl
  · rw [r]
  · rw [l]
  · rw [l, r]

theorem places_use {prog : Program} {w : World} {K : Frag} {p : Program} {loose : List Str} {mean : ExcName → Option Value} {mg mb : Str → Option Value} (C : PlacesC prog w K p loose mean mg mb)
    {dp un : Nat} {gd : Option (List Code)} {cn : Str} {cs : Scope} {ca : Addr} {ccd : Value} {cl : List (Str × Addr)} {outer : List Env} {A₀ : Around} {base h₀ : Heap} {L : Addr} {m : Str → Option Value} {s : Shared} {Q E : Value → Shared → Prop}
    {news : List (Addr × Obj)} {a : Int} {ta : Tok}
    (B : Below A₀ base outer h₀) (F : Fr h₀ L s.heap m) (X : K.In h₀) (N : News h₀ L s.heap news) (T : Top p loose mean mg mb h₀) (hck : cs.kind = .function)
    (h1 : -2147483648 ≤ a) (h2 : a < 2147483648) (hd : dp + 1 < recursionLimit) (hu : un + 100 < cLine)
    (ret : ∀ (l : Addr) (us : List Value) (n' : Nat) (h' : Heap) (tk' : Nat), Fr h₀ L h' m → News h₀ L h' ((l, listOf us.toArray n') :: news) → (∀ q ∈ news, q.1 < l) → IntsAre us (bitsL 32 (toU a)) → Q (.ref l) { s with heap := h', toks := tk' }) :
    wpAny (model prog w) (ktrTop dp un gd cn cs L ca ccd cl outer) (call (.ref 49) [.int a ta]) Q E s :=
  C _ _ _ _ _ _ _ _ _ _ _ _ _ _ _ _ _ _ _ _ B F X N T hck h1 h2 hd hu ret

def OpC (fa : Addr) (nm : Str) (op : Int → Int → Int) (prog : Program) (w : World) (K : Frag) (p : Program) (loose : List Str) (mean : ExcName → Option Value) (mg mb : Str → Option Value) : Prop :=
  ∀ (dp un : Nat) (gd : Option (List Code)) (cn : Str) (cs : Scope) (ca : Addr) (ccd : Value) (cl : List (Str × Addr)) (outer : List Env) (A₀ : Around) (base h₀ : Heap) (L : Addr) (m : Str → Option Value) (s : Shared) (Q E : Value → Shared → Prop)
    (news : List (Addr × Obj)) (a b : Int) (tn ta tb : Tok),
    Below A₀ base outer h₀ → Fr h₀ L s.heap m → K.In h₀ → News h₀ L s.heap news → Top p loose mean mg mb h₀ → cs.kind = .function →
    -2147483648 ≤ a → a < 2147483648 → -2147483648 ≤ b → b < 2147483648 → dp + 2 < recursionLimit → un + 200 < cLine →
    (op a b = -2147483648 → ∀ (h' : Heap) (tk' : Nat), Fr h₀ L h' m → News h₀ L h' news → Q .none { s with heap := h', toks := tk' }) →
    (op a b ≠ -2147483648 → ∀ (t : Tok) (h' : Heap) (tk' : Nat), Fr h₀ L h' m → News h₀ L h' news → Q (.int (op a b) t) { s with heap := h', toks := tk' }) →
    wpAny (model prog w) (ktrTop dp un gd cn cs L ca ccd cl outer) (call (.ref fa) [.str nm tn, .int a ta, .int b tb]) Q E s

theorem ZEnd.intro {h₀ h' : Heap} {L : Addr} {m₀ m' : Str → Option Value} {led : List (Addr × Obj)} {T' W' T W : Int} {s₁ : Shared} {tk' : Nat} {tT tW : Tok} (F : Fr h₀ L h' m') (N : News h₀ L h' led)
    (h1 : m' (Str.ofString "total") = some (.int T tT)) (h2 : m' (Str.ofString "weight") = some (.int W tW)) (hz : ∀ z, z ≠ Str.ofString "one" → z ≠ Str.ofString "two" → z ≠ Str.ofString "total" → z ≠ Str.ofString "weight" → m' z = m₀ z)
    (e1 : T = T') (e2 : W = W') : ZEnd h₀ L m₀ led T' W' s₁ .next { s₁ with heap := h', toks := tk' } := by
  subst e1
  subst e2
  exact ⟨rfl, h', tk', m', tT, tW, rfl, F, N, h1, h2, hz⟩
theorem drop2b {h₀ h : Heap} {L : Addr} {p q : Addr × Obj} {r : List (Addr × Obj)} (N : News h₀ L h (p :: q :: r)) : News h₀ L h r := fun x hx => N _ (.tail _ (.tail _ hx))

local macro_rules | `(tactic| walk_at "call ref") => `(tactic| (k_here; k_dflt (refine' places_use (placesC _ _ _ _ _ _) ?k1 ?k2 ?k3 ?k4 ?k5 ?k6 ?k7 ?k8 ?k11 ?k12 ?_; (case k1 => k_asm); (case k2 => k_asm); (case k3 => k_asm); (case k4 => k_asm); (case k5 => k_asm); (case k6 => first | exact rfl | assumption); (case k7 => omega); (case k8 => omega); (case k11 => ktr_room); (case k12 => ktr_units); k_whole); intro l' us' n' h' tk' F' N' hlt' hI'; (try dsimp only); (try k_sweep)))
local macro_rules | `(tactic| walk_at "call type:zip") => `(tactic| (k_here; k_dflt (refine' zipK ?k1 ?k2 ?k3 ?k4 ?_; (case k1 => k_asm); (case k2 => k_asm); (case k3 => k_mem); (case k4 => k_mem); k_whole); intro z' h' F' N' Z'; (try dsimp only); (try k_sweep)))
local macro_rules | `(tactic| walk_at "pyIter ref") => `(tactic| (k_here; k_dflt ((rename Fr _ _ _ _ => lF'); (rename News _ _ _ _ => lN'); (rename ZipAt _ _ _ _ _ _ _ _ _ => lZ'); (with_unfolding_all refine' told_loop (f := fAnd) ?hh lZ' ?hi1 ?hi2 lF' lN' ?ht ?hw ?_ ?_); (case hh => rfl); (case hi1 => assumption); (case hi2 => assumption); (case ht => rfl); (case hw => rfl); (all_goals (clear lZ' lF' lN')); (all_goals intros); (all_goals (try k_fold)))))

theorem toldAnd (w : World) (p : Program) (loose : List Str) (mean : ExcName → Option Value) (mg mb : Str → Option Value) : OpC 56 (Str.ofString "bitwAnd") Builtin.bitAnd PySem.Challenge.rw_pq1389_01.row.prog w (Mine.hd.heap_39 w.params) p loose mean mg mb := by
  unfold OpC
  k_fill
  w_top off
  intro dp un gd cn cs ca ccd cl outer A₀ base h₀ L m s Q E news a b tn ta tb B F X N T hck h1 h2 h3 h4 hd hu hret0 hret
  have hT := toU_told opAnd h1 h3
  have hR := opAnd.range h1 h2 h3 h4
  have hretN : ∀ {h' : Heap} {tk' : Nat} {p1 p2 : Addr × Obj}, Fr h₀ L h' m → News h₀ L h' (p1 :: p2 :: news) → Builtin.bitAnd a b = -2147483648 → Q .none { s with heap := h', toks := tk' } := fun F N e => hret0 e _ _ F (drop2b N)
  have hretI : ∀ {v : Int} {t : Tok} {h' : Heap} {tk' : Nat} {p1 p2 : Addr × Obj}, Fr h₀ L h' m → News h₀ L h' (p1 :: p2 :: news) → v = Builtin.bitAnd a b → v ≠ -2147483648 → Q (.int v t) { s with heap := h', toks := tk' } := fun F N e hne => by subst e; exact hret hne _ _ _ F (drop2b N)
  clear hret0 hret
  refine wpAny_call ?_
  k_dflt cell_enter
  k_steps
  all_goals first
    | exact hretN (by assumption) (by assumption) (by omega)
    | exact hretI (by assumption) (by assumption) (by omega) (by omega)
    | exact ZEnd.intro (by assumption) (by assumption) (by rfl) (by rfl) (by intro z a1 a2 a3 a4; simp only [if_neg a1, if_neg a2, if_neg a3, if_neg a4]) (by unfold fAnd; split <;> omega) (by omega)
local macro_rules | `(tactic| walk_at "pyIter ref") => `(tactic| (k_here; k_dflt ((rename Fr _ _ _ _ => lF'); (rename News _ _ _ _ => lN'); (rename ZipAt _ _ _ _ _ _ _ _ _ => lZ'); (with_unfolding_all refine' told_loop (f := fOr) ?hh lZ' ?hi1 ?hi2 lF' lN' ?ht ?hw ?_ ?_); (case hh => rfl); (case hi1 => assumption); (case hi2 => assumption); (case ht => rfl); (case hw => rfl); (all_goals (clear lZ' lF' lN')); (all_goals intros); (all_goals (try k_fold)))))

theorem toldOr (w : World) (p : Program) (loose : List Str) (mean : ExcName → Option Value) (mg mb : Str → Option Value) : OpC 56 (Str.ofString "bitwOr") Builtin.bitOr PySem.Challenge.rw_pq1389_01.row.prog w (Mine.hd.heap_39 w.params) p loose mean mg mb := by
  unfold OpC
  k_fill
  w_top off
  intro dp un gd cn cs ca ccd cl outer A₀ base h₀ L m s Q E news a b tn ta tb B F X N T hck h1 h2 h3 h4 hd hu hret0 hret
  have hT := toU_told opOr h1 h3
  have hR := opOr.range h1 h2 h3 h4
  have hretN : ∀ {h' : Heap} {tk' : Nat} {p1 p2 : Addr × Obj}, Fr h₀ L h' m → News h₀ L h' (p1 :: p2 :: news) → Builtin.bitOr a b = -2147483648 → Q .none { s with heap := h', toks := tk' } := fun F N e => hret0 e _ _ F (drop2b N)
  have hretI : ∀ {v : Int} {t : Tok} {h' : Heap} {tk' : Nat} {p1 p2 : Addr × Obj}, Fr h₀ L h' m → News h₀ L h' (p1 :: p2 :: news) → v = Builtin.bitOr a b → v ≠ -2147483648 → Q (.int v t) { s with heap := h', toks := tk' } := fun F N e hne => by subst e; exact hret hne _ _ _ F (drop2b N)
  clear hret0 hret
  refine wpAny_call ?_
  k_dflt cell_enter
  k_steps
  all_goals first
    | exact hretN (by assumption) (by assumption) (by omega)
    | exact hretI (by assumption) (by assumption) (by omega) (by omega)
    | exact ZEnd.intro (by assumption) (by assumption) (by rfl) (by rfl) (by intro z a1 a2 a3 a4; simp only [if_neg a1, if_neg a2, if_neg a3, if_neg a4]) (by unfold fOr; split <;> omega) (by omega)
local macro_rules | `(tactic| walk_at "pyIter ref") => `(tactic| (k_here; k_dflt ((rename Fr _ _ _ _ => lF'); (rename News _ _ _ _ => lN'); (rename ZipAt _ _ _ _ _ _ _ _ _ => lZ'); (with_unfolding_all refine' told_loop (f := fXor) ?hh lZ' ?hi1 ?hi2 lF' lN' ?ht ?hw ?_ ?_); (case hh => rfl); (case hi1 => assumption); (case hi2 => assumption); (case ht => rfl); (case hw => rfl); (all_goals (clear lZ' lF' lN')); (all_goals intros); (all_goals (try k_fold)))))

theorem toldXor (w : World) (p : Program) (loose : List Str) (mean : ExcName → Option Value) (mg mb : Str → Option Value) : OpC 56 (Str.ofString "bitwXor") Builtin.bitXor PySem.Challenge.rw_pq1389_01.row.prog w (Mine.hd.heap_39 w.params) p loose mean mg mb := by
  unfold OpC
  k_fill
  w_top off
  intro dp un gd cn cs ca ccd cl outer A₀ base h₀ L m s Q E news a b tn ta tb B F X N T hck h1 h2 h3 h4 hd hu hret0 hret
  have hT := toU_told opXor h1 h3
  have hR := opXor.range h1 h2 h3 h4
  have hretN : ∀ {h' : Heap} {tk' : Nat} {p1 p2 : Addr × Obj}, Fr h₀ L h' m → News h₀ L h' (p1 :: p2 :: news) → Builtin.bitXor a b = -2147483648 → Q .none { s with heap := h', toks := tk' } := fun F N e => hret0 e _ _ F (drop2b N)
  have hretI : ∀ {v : Int} {t : Tok} {h' : Heap} {tk' : Nat} {p1 p2 : Addr × Obj}, Fr h₀ L h' m → News h₀ L h' (p1 :: p2 :: news) → v = Builtin.bitXor a b → v ≠ -2147483648 → Q (.int v t) { s with heap := h', toks := tk' } := fun F N e hne => by subst e; exact hret hne _ _ _ F (drop2b N)
  clear hret0 hret
  refine wpAny_call ?_
  k_dflt cell_enter
  k_steps
  all_goals first
    | exact hretN (by assumption) (by assumption) (by omega)
    | exact hretI (by assumption) (by assumption) (by omega) (by omega)
    | exact ZEnd.intro (by assumption) (by assumption) (by rfl) (by rfl) (by intro z a1 a2 a3 a4; simp only [if_neg a1, if_neg a2, if_neg a3, if_neg a4]) (by unfold fXor; split <;> omega) (by omega)
end Mine

namespace Mine

section
variable {prog : Program} {w : World} {A : Around} {E : Value → Shared → Prop} {s : Shared} {env : Env} {h₀ : Heap} {body : List Stmt} {Q : Flow → Shared → Prop} {l : Addr} {m₀ : Str → Option Value}
/-- the end of a turn of the inner loop: the list is longer by one; the turn may leave -/
def InEnd (h₀ : Heap) (L : Addr) (m₀ : Str → Option Value) (l : Addr) (rest : List (Addr × Obj)) (k : Nat) (s₁ : Shared) (f : Flow) (s₂ : Shared) : Prop :=
  (f = .next ∨ f = .brk) ∧ ∃ (us : List Value) (ns : List Int) (n : Nat) (left : Int) (tl : Tok) (h' : Heap) (tk' : Nat) (m' : Str → Option Value), s₂ = { s₁ with heap := h', toks := tk' } ∧ Fr h₀ L h' m' ∧ News h₀ L h' ((l, listOf us.toArray n) :: rest) ∧
    IntsAre us ns ∧ ns.length = k + 1 ∧ m' (Str.ofString "left") = some (.int left tl) ∧ ∀ z, z ≠ Str.ofString "hop" → z ≠ Str.ofString "left" → m' z = m₀ z

theorem inner_loop {r : Addr} {t₀ u₀ v₀ : Tok} {news rest : List (Addr × Obj)} {us0 : List Value} {ns0 : List Int} {n0 : Nat} {R : Int} {tR : Tok}
    (hh : A.handled = none) (hr : IsRange s.heap r 0 9 1 t₀ u₀ v₀) (F : Fr h₀ env.locals s.heap m₀) (N : News h₀ env.locals s.heap news) (P : Pick l (listOf us0.toArray n0) news rest) (hi : IntsAre us0 ns0) (hm : m₀ (Str.ofString "left") = some (.int R tR))
    (turn : ∀ (k : Int) (t : Tok) (us : List Value) (ns : List Int) (n : Nat) (left : Int) (tl : Tok) (h : Heap) (tk : Nat) (own : List (Addr × Obj)), ns.length < ns0.length + 9 → IntsAre us ns → (∀ p ∈ rest ++ own, p.1 ≠ l) →
      Fr h₀ env.locals h (fun y => if y = Str.ofString "hop" then some (.int k t) else if y = Str.ofString "left" then some (.int left tl) else m₀ y) → News h₀ env.locals h ((l, listOf us.toArray n) :: (rest ++ own)) →
      wpAny (model prog w) A (execs body env) (fun f s₂ => InEnd h₀ env.locals m₀ l (rest ++ own) ns.length { s with heap := h, toks := tk } f s₂) E { s with heap := h, toks := tk })
    (done : ∀ (us : List Value) (ns : List Int) (n : Nat) (u v : Option Value) (h : Heap) (tk : Nat), IntsAre us ns → ns.length ≤ ns0.length + 9 → Fr h₀ env.locals h (fun y => if y = Str.ofString "hop" then u else if y = Str.ofString "left" then v else m₀ y) →
      News h₀ env.locals h ((l, listOf us.toArray n) :: rest) → Q .next { s with heap := h, toks := tk }) :
    wpAny (model prog w) A (pyIter (.ref r)) (fun it s₂ => LoopAtV prog w A h₀ env (Str.ofString "hop") body Q E it s₂) E s := by
  have N0 : News h₀ env.locals s.heap ((l, listOf us0.toArray n0) :: rest) := fun q hq => N q (P.spec.1 q hq)
  have fr : ∀ {h' : Heap} {m' : Str → Option Value}, Fr h₀ env.locals h' m' → (∀ z, z ≠ Str.ofString "hop" → z ≠ Str.ofString "left" → m' z = m₀ z) →
      Fr h₀ env.locals h' (fun y => if y = Str.ofString "hop" then m' (Str.ofString "hop") else if y = Str.ofString "left" then m' (Str.ofString "left") else m₀ y) := by
    intro h' m' F' hz
    have e : (fun y => if y = Str.ofString "hop" then m' (Str.ofString "hop") else if y = Str.ofString "left" then m' (Str.ofString "left") else m₀ y) = m' := by
      funext y
      by_cases a : y = Str.ofString "hop"
      · rw [if_pos a, a]
      · rw [if_neg a]
        by_cases b : y = Str.ofString "left"
        · rw [if_pos b, b]
        · rw [if_neg b]; exact (hz y a b).symm
    rw [e]
    exact F'
  refine kst_range (σ := List Value × List Int × Nat × Int × Tok) (n := 9) (x := Str.ofString "hop") (fun c => (l, listOf c.1.toArray c.2.2.1) :: rest) (fun c => [(Str.ofString "left", .int c.2.2.2.1 c.2.2.2.2)]) (fun c => IntsAre c.1 c.2.1) []
    (fun pre c => c.2.1.length ≤ ns0.length + pre.length) (us0, ns0, n0, R, tR) hh hr (by decide) (by rfl) F N0 hi ?_ (Nat.le_refl _) ?_ ?_
  · intro p hp
    rcases List.mem_cons.mp hp with rfl | hp
    · exact hm
    · cases hp
  · rintro ⟨us, ns, n, left, tl⟩ pre k t u h tk own hk hlt' hoff hf hl F₁ N₁
    dsimp only at hl hf F₁ N₁ ⊢
    refine wpAny_mono (turn k t us ns n left tl h tk own (by omega) hf ?_ F₁ N₁) ?_ fun _ _ e => e
    · intro p hp
      rcases List.mem_append.mp hp with hp | hp
      · exact P.spec.2 p hp
      · exact hoff p hp l (.head _)
    · rintro f s₂ ⟨hfl, us', ns', n', left', tl', h', tk', m', rfl, F', N', hf', hl', hm', hz⟩
      rcases hfl with rfl | rfl
      · show InvEndN _ _ _ _ _ _ _
        refine kst_end (us', ns', n', left', tl') F' N' (fun p hp => ?_) (fun p hp => ?_) rfl hf' (fun p hp => ?_) (fun z h1 h2 _ => hz z h1 (h2 _ (.head _))) ?_
        · rcases List.mem_cons.mp hp with rfl | hp
          · exact .head _
          · exact .tail _ (List.mem_append_left _ hp)
        · exact .tail _ (List.mem_append_right _ hp)
        · rcases List.mem_cons.mp hp with rfl | hp
          · exact hm'
          · cases hp
        · show ns'.length ≤ ns0.length + (pre ++ [k]).length
          rw [List.length_append, hl']
          show ns.length + 1 ≤ ns0.length + (pre.length + 1)
          omega
      · show Q .next _
        refine done us' ns' n' _ _ h' tk' hf' (by omega) (fr F' hz) fun p hp => ?_
        rcases List.mem_cons.mp hp with rfl | hp
        · exact N' _ (.head _)
        · exact N' _ (.tail _ (List.mem_append_left _ hp))
  · rintro ⟨us, ns, n, left, tl⟩ u h tk hf hl F₁ N₁
    dsimp only at hl hf F₁ N₁
    rw [rangeKs_length] at hl
    refine done us ns n (u (Str.ofString "hop")) (some (.int left tl)) h tk hf hl ?_ N₁
    have e : (fun y => if y = Str.ofString "hop" then u (Str.ofString "hop") else if y = Str.ofString "left" then some (Value.int left tl) else m₀ y) =
        fun y => if y = Str.ofString "hop" then u y else kstB (fun z => if ([] : List Str).contains z then u z else m₀ z) [(Str.ofString "left", Value.int left tl)] y := by
      funext y
      by_cases h1 : y = Str.ofString "hop"
      · rw [if_pos h1, if_pos h1, h1]
      · rw [if_neg h1, if_neg h1]; rfl
    rw [e]
    exact F₁

/-- the end of a turn of the outer loop -/
def OutEnd (h₀ : Heap) (L : Addr) (m₀ : Str → Option Value) (l : Addr) (rest : List (Addr × Obj)) (k : Nat) (s₁ : Shared) (f : Flow) (s₂ : Shared) : Prop :=
  f = .next ∧ ∃ (us : List Value) (ns : List Int) (n : Nat) (h' : Heap) (tk' : Nat) (m' : Str → Option Value), s₂ = { s₁ with heap := h', toks := tk' } ∧ Fr h₀ L h' m' ∧ News h₀ L h' ((l, listOf us.toArray n) :: rest) ∧
    IntsAre us ns ∧ ns.length ≤ k + 9 ∧ ∀ z, z ≠ Str.ofString "one" → z ≠ Str.ofString "left" → z ≠ Str.ofString "hop" → m' z = m₀ z

theorem outer_loop {d : Addr} {ws : List Value} {ms : List Int} {nn : Nat} {news : List (Addr × Obj)}
    (hh : A.handled = none) (F : Fr h₀ env.locals s.heap m₀) (N : News h₀ env.locals s.heap ((d, listOf ws.toArray nn) :: (l, listOf #[] 0) :: news)) (hi : IntsAre ws ms) (hms : ms.length ≤ 20)
    (hlt : ∀ p ∈ news, p.1 < l) (hld : l < d)
    (turn : ∀ (k : Int) (t : Tok) (us : List Value) (ns : List Int) (n : Nat) (v1 v2 : Option Value) (h : Heap) (tk : Nat) (own : List (Addr × Obj)), ns.length ≤ 171 → IntsAre us ns → (∀ p ∈ (d, listOf ws.toArray nn) :: (news ++ own), p.1 ≠ l) →
      Fr h₀ env.locals h (fun y => if y = Str.ofString "one" then some (.int k t) else if y = Str.ofString "left" then v1 else if y = Str.ofString "hop" then v2 else m₀ y) → News h₀ env.locals h ((l, listOf us.toArray n) :: (d, listOf ws.toArray nn) :: (news ++ own)) →
      wpAny (model prog w) A (execs body env) (fun f s₂ => OutEnd h₀ env.locals m₀ l ((d, listOf ws.toArray nn) :: (news ++ own)) ns.length { s with heap := h, toks := tk } f s₂) E { s with heap := h, toks := tk })
    (done : ∀ (us : List Value) (ns : List Int) (n : Nat) (u v1 v2 : Option Value) (h : Heap) (tk : Nat), IntsAre us ns → ns.length ≤ 180 → Fr h₀ env.locals h (fun y => if y = Str.ofString "one" then u else if y = Str.ofString "left" then v1 else if y = Str.ofString "hop" then v2 else m₀ y) →
      News h₀ env.locals h ((l, listOf us.toArray n) :: news) → Q .next { s with heap := h, toks := tk }) :
    wpAny (model prog w) A (pyIter (.ref d)) (fun it s₂ => LoopAtV prog w A h₀ env (Str.ofString "one") body Q E it s₂) E s := by
  have fr : ∀ (u : Str → Option Value) (o : Option Value), (fun y => if y = Str.ofString "one" then o else kstB (fun z => if [Str.ofString "left", Str.ofString "hop"].contains z then u z else m₀ z) [] y) =
      fun y => if y = Str.ofString "one" then o else if y = Str.ofString "left" then u (Str.ofString "left") else if y = Str.ofString "hop" then u (Str.ofString "hop") else m₀ y := by
    intro u o
    funext y
    by_cases a : y = Str.ofString "one"
    · rw [if_pos a, if_pos a]
    · rw [if_neg a, if_neg a]
      show (if [Str.ofString "left", Str.ofString "hop"].contains y = true then u y else m₀ y) = _
      by_cases b : y = Str.ofString "left"
      · rw [if_pos b, b]; rfl
      · rw [if_neg b]
        by_cases c : y = Str.ofString "hop"
        · rw [if_pos c, c]; rfl
        · rw [if_neg c, if_neg (by simp [b, c])]
  refine kst_listL (σ := List Value × List Int × Nat) (x := Str.ofString "one") (nn := nn) (fun c => (d, listOf ws.toArray nn) :: (l, listOf c.1.toArray c.2.2) :: news) (fun _ => []) (fun c => IntsAre c.1 c.2.1) [Str.ofString "left", Str.ofString "hop"]
    (fun pre c => c.2.1.length ≤ 9 * pre.length) ([], [], 0) hh (fun _ => .head _) hi F N .nil (fun _ hp => nomatch hp) (Nat.le_refl _) ?_ ?_
  · rintro ⟨us, ns, n⟩ pre post k t u h tk own hk hmem hoff hf hl F₁ N₁
    dsimp only at hl hf F₁ N₁ ⊢
    have hlen : pre.length < ms.length := by rw [hk, List.length_append, List.length_cons]; omega
    rw [fr] at F₁
    have N₂ : News h₀ env.locals h ((l, listOf us.toArray n) :: (d, listOf ws.toArray nn) :: (news ++ own)) := fun p hp => N₁ p (by
      rcases List.mem_cons.mp hp with rfl | hp
      · exact .tail _ (.head _)
      · rcases List.mem_cons.mp hp with rfl | hp
        · exact .head _
        · exact .tail _ (.tail _ hp))
    refine wpAny_mono (turn k t us ns n _ _ h tk own (by omega) hf ?_ F₁ N₂) ?_ fun _ _ e => e
    · intro p hp
      rcases List.mem_cons.mp hp with rfl | hp
      · exact Nat.ne_of_gt hld
      · rcases List.mem_append.mp hp with hp | hp
        · exact Nat.ne_of_lt (hlt p hp)
        · exact hoff p hp l (.tail _ (.head _))
    · rintro f s₂ ⟨rfl, us', ns', n', h', tk', m', rfl, F', N', hf', hl', hz⟩
      show InvEndN _ _ _ _ _ _ _
      refine kst_end (us', ns', n') F' N' (fun p hp => ?_) (fun p hp => ?_) rfl hf' (fun p hp => nomatch hp) (fun z h1 _ h3 => hz z h1 (fun e => ?_) (fun e => ?_)) ?_
      · rcases List.mem_cons.mp hp with rfl | hp
        · exact .tail _ (.head _)
        · rcases List.mem_cons.mp hp with rfl | hp
          · exact .head _
          · exact .tail _ (.tail _ (List.mem_append_left _ hp))
      · exact .tail _ (.tail _ (List.mem_append_right _ hp))
      · rw [e] at h3; revert h3; decide
      · rw [e] at h3; revert h3; decide
      · show ns'.length ≤ 9 * (pre ++ [k]).length
        rw [List.length_append]
        show ns'.length ≤ 9 * (pre.length + 1)
        omega
  · rintro ⟨us, ns, n⟩ u h tk hf hl F₁ N₁
    dsimp only at hl hf F₁ N₁
    have F₂ : Fr h₀ env.locals h (fun y => if y = Str.ofString "one" then u (Str.ofString "one") else kstB (fun z => if [Str.ofString "left", Str.ofString "hop"].contains z then u z else m₀ z) [] y) := by
      have e : (fun y => if y = Str.ofString "one" then u (Str.ofString "one") else kstB (fun z => if [Str.ofString "left", Str.ofString "hop"].contains z then u z else m₀ z) [] y) =
          fun y => if y = Str.ofString "one" then u y else kstB (fun z => if [Str.ofString "left", Str.ofString "hop"].contains z then u z else m₀ z) [] y := by
        funext y
        by_cases a : y = Str.ofString "one"
        · rw [if_pos a, if_pos a, a]
        · rw [if_neg a, if_neg a]
      rw [e]; exact F₁
    rw [fr] at F₂
    refine done us ns n _ _ _ h tk hf (by omega) F₂ fun p hp => N₁ p ?_
    rcases List.mem_cons.mp hp with rfl | hp
    · exact .tail _ (.head _)
    · exact .tail _ (.tail _ hp)
end


theorem InEnd.intro {h₀ h' : Heap} {L : Addr} {m₀ m' : Str → Option Value} {l : Addr} {rest : List (Addr × Obj)} {s₁ : Shared} {us : List Value} {ns : List Int} {n : Nat} {x left : Int} {t tl : Tok} {tk' : Nat} {f : Flow}
    (F : Fr h₀ L h' m') (N : News h₀ L h' ((l, listOf (us.toArray.push (.int x t)) n) :: rest)) (hi : IntsAre us ns) (hm : m' (Str.ofString "left") = some (.int left tl))
    (hz : ∀ z, z ≠ Str.ofString "hop" → z ≠ Str.ofString "left" → m' z = m₀ z) (hf : f = .next ∨ f = .brk) : InEnd h₀ L m₀ l rest ns.length s₁ f { s₁ with heap := h', toks := tk' } := by
  rw [List.push_toArray] at N
  exact ⟨hf, _, ns ++ [x], _, left, tl, h', tk', m', rfl, F, N, hi.append (.cons _ _ .nil), by rw [List.length_append]; rfl, hm, hz⟩
theorem OutEnd.intro {h₀ h' : Heap} {L : Addr} {m₀ m' : Str → Option Value} {l : Addr} {rest : List (Addr × Obj)} {s₁ : Shared} {us : List Value} {ns : List Int} {n k : Nat} {tk' : Nat}
    (F : Fr h₀ L h' m') (N : News h₀ L h' ((l, listOf us.toArray n) :: rest)) (hi : IntsAre us ns) (hl : ns.length ≤ k + 9)
    (hz : ∀ z, z ≠ Str.ofString "one" → z ≠ Str.ofString "left" → z ≠ Str.ofString "hop" → m' z = m₀ z) : OutEnd h₀ L m₀ l rest k s₁ .next { s₁ with heap := h', toks := tk' } :=
  ⟨rfl, us, ns, n, h', tk', m', rfl, F, N, hi, hl, hz⟩
theorem lt_head {d l : Addr} {o : Obj} {news : List (Addr × Obj)} (h : ∀ p ∈ (l, o) :: news, p.1 < d) : l < d := h _ (.head _)

def ShellsC (prog : Program) (w : World) (K : Frag) (p : Program) (loose : List Str) (mean : ExcName → Option Value) (mg mb : Str → Option Value) : Prop :=
  ∀ (dp un : Nat) (gd : Option (List Code)) (cn : Str) (cs : Scope) (ca : Addr) (ccd : Value) (cl : List (Str × Addr)) (outer : List Env) (A₀ : Around) (base h₀ : Heap) (L : Addr) (m : Str → Option Value) (s : Shared) (Q E : Value → Shared → Prop)
    (news : List (Addr × Obj)) (sc : Addr) (vs : List Value) (ns : List Int),
    Below A₀ base outer h₀ → Fr h₀ L s.heap m → K.In h₀ → News h₀ L s.heap news → Top p loose mean mg mb h₀ → cs.kind = .function →
    base.IsList sc vs.toArray → IntsAre vs ns → ns.length < 100 → dp + 1 < recursionLimit → un + 100 < cLine →
    (∀ (l : Addr) (us : List Value) (ms : List Int) (n' : Nat) (h' : Heap) (tk' : Nat), Fr h₀ L h' m → News h₀ L h' ((l, listOf us.toArray n') :: news) → (∀ q ∈ news, q.1 < l) → IntsAre us ms → ms.length < 2000 → Q (.ref l) { s with heap := h', toks := tk' }) →
    wpAny (model prog w) (ktrTop dp un gd cn cs L ca ccd cl outer) (call (.ref 28) [.ref sc]) Q E s


local macro_rules | `(tactic| k_lt $h) => `(tactic| skip)
local macro_rules | `(tactic| k_all) => `(tactic| assumption)
local macro_rules | `(tactic| walk_at "exec For Name Subscript cons nil") => `(tactic| (k_here; (rename Fr _ _ _ _ => lF'); (with_unfolding_all refine' For_invVF lF' ?k1 ?k2 ?_; (case k1 => exact rfl); (case k2 => exact rfl); k_whole)))
local macro_rules | `(tactic| walk_at "pyIter ref") => `(tactic| (k_here; k_dflt ((rename Fr _ _ _ _ => lF'); (rename News _ _ _ _ => lN'); (with_unfolding_all refine' outer_loop ?hh lF' lN' ?hi ?hms ?hlt ?hld ?_ ?_); (case hh => rfl); (case hi => assumption); (case hms => omega); (case hlt => assumption); (case hld => exact lt_head (by assumption)); (all_goals (clear lF' lN')); (all_goals intros); (all_goals (try k_fold)))))
local macro_rules | `(tactic| walk_at "pyIter ref") => `(tactic| (k_here; k_dflt ((rename Fr _ _ _ _ => lF'); (rename News _ _ _ _ => lN'); (rename IsRange _ _ _ _ _ _ _ _ => rgX); (with_unfolding_all refine' inner_loop ?hh rgX lF' lN' ?hP ?hi ?hm ?_ ?_); (case hh => rfl); (case hP => exact Pick.head (by assumption)); (case hi => assumption); (case hm => rfl); (all_goals (clear lF' lN')); (all_goals intros); (all_goals (try k_fold)))))
theorem shellsC (w : World) (p : Program) (loose : List Str) (mean : ExcName → Option Value) (mg mb : Str → Option Value) : ShellsC PySem.Challenge.rw_pq1389_01.row.prog w (Mine.hd.heap_39 w.params) p loose mean mg mb := by
  unfold ShellsC
  k_fill
  w_top off
  intro dp un gd cn cs ca ccd cl outer A₀ base h₀ L m s Q E news sc vs ns B F X N T hck hL hI hlen hd hu hret
  refine wpAny_call ?_
  k_dflt cell_enter
  k_steps
  all_goals (try dsimp only)
  all_goals (try simp only [qk])
  all_goals first
    | exact hret _ _ _ _ _ _ (by assumption) (by assumption) (by assumption) (by assumption) (by omega)
    | exact InEnd.intro (by assumption) (by assumption) (by assumption) (by rfl) (by intro z a1 a2; simp only [if_neg a1, if_neg a2]) (by first | exact Or.inl rfl | exact Or.inr rfl)
    | exact OutEnd.intro (by assumption) (by assumption) (by assumption) (by omega) (by intro z a1 a2 a3; simp only [if_neg a1, if_neg a2, if_neg a3])
end Mine

namespace Mine

theorem itemAnd (w : World) (p : Program) (loose : List Str) (mean : ExcName → Option Value) (mg mb : Str → Option Value) : OpC 21 (Str.ofString "bitwAnd") Builtin.bitAnd PySem.Challenge.rw_pq1389_01.row.prog w (Mine.hd.heap_39 w.params) p loose mean mg mb := by
  unfold OpC
  k_fill
  w_top off
  intro dp un gd cn cs ca ccd cl outer A₀ base h₀ L m s Q E news a b tn ta tb B F X N T hck h1 h2 h3 h4 hd hu hret0 hret
  have hretN : ∀ {h' : Heap} {tk' : Nat}, Fr h₀ L h' m → News h₀ L h' news → Builtin.bitAnd a b = -2147483648 → Q .none { s with heap := h', toks := tk' } := fun F N e => hret0 e _ _ F N
  have hretI : ∀ {t : Tok} {h' : Heap} {tk' : Nat}, Fr h₀ L h' m → News h₀ L h' news → Builtin.bitAnd a b ≠ -2147483648 → Q (.int (Builtin.bitAnd a b) t) { s with heap := h', toks := tk' } := fun F N e => hret e _ _ _ F N
  clear hret0 hret
  refine wpAny_call ?_
  k_dflt cell_enter
  k_steps
  all_goals first
    | exact hretN (by assumption) (by assumption) (by omega)
    | exact hretI (by assumption) (by assumption) (by omega)

theorem itemOr (w : World) (p : Program) (loose : List Str) (mean : ExcName → Option Value) (mg mb : Str → Option Value) : OpC 21 (Str.ofString "bitwOr") Builtin.bitOr PySem.Challenge.rw_pq1389_01.row.prog w (Mine.hd.heap_39 w.params) p loose mean mg mb := by
  unfold OpC
  k_fill
  w_top off
  intro dp un gd cn cs ca ccd cl outer A₀ base h₀ L m s Q E news a b tn ta tb B F X N T hck h1 h2 h3 h4 hd hu hret0 hret
  have hretN : ∀ {h' : Heap} {tk' : Nat}, Fr h₀ L h' m → News h₀ L h' news → Builtin.bitOr a b = -2147483648 → Q .none { s with heap := h', toks := tk' } := fun F N e => hret0 e _ _ F N
  have hretI : ∀ {t : Tok} {h' : Heap} {tk' : Nat}, Fr h₀ L h' m → News h₀ L h' news → Builtin.bitOr a b ≠ -2147483648 → Q (.int (Builtin.bitOr a b) t) { s with heap := h', toks := tk' } := fun F N e => hret e _ _ _ F N
  clear hret0 hret
  refine wpAny_call ?_
  k_dflt cell_enter
  k_steps
  all_goals first
    | exact hretN (by assumption) (by assumption) (by omega)
    | exact hretI (by assumption) (by assumption) (by omega)

theorem itemXor (w : World) (p : Program) (loose : List Str) (mean : ExcName → Option Value) (mg mb : Str → Option Value) : OpC 21 (Str.ofString "bitwXor") Builtin.bitXor PySem.Challenge.rw_pq1389_01.row.prog w (Mine.hd.heap_39 w.params) p loose mean mg mb := by
  unfold OpC
  k_fill
  w_top off
  intro dp un gd cn cs ca ccd cl outer A₀ base h₀ L m s Q E news a b tn ta tb B F X N T hck h1 h2 h3 h4 hd hu hret0 hret
  have hretN : ∀ {h' : Heap} {tk' : Nat}, Fr h₀ L h' m → News h₀ L h' news → Builtin.bitXor a b = -2147483648 → Q .none { s with heap := h', toks := tk' } := fun F N e => hret0 e _ _ F N
  have hretI : ∀ {t : Tok} {h' : Heap} {tk' : Nat}, Fr h₀ L h' m → News h₀ L h' news → Builtin.bitXor a b ≠ -2147483648 → Q (.int (Builtin.bitXor a b) t) { s with heap := h', toks := tk' } := fun F N e => hret e _ _ _ F N
  clear hret0 hret
  refine wpAny_call ?_
  k_dflt cell_enter
  k_steps
  all_goals first
    | exact hretN (by assumption) (by assumption) (by omega)
    | exact hretI (by assumption) (by assumption) (by omega)
end Mine

namespace Mine
section
variable {prog : Program} {w : World} {A : Around} {E : Value → Shared → Prop} {s : Shared} {env : Env} {h₀ : Heap} {body : List Stmt} {Q : Flow → Shared → Prop} {l c : Addr} {m₀ : Str → Option Value}
/-- the end of a lap: the list of draws is another list of ints, the cell holds something, the names that a lap stores are forgotten; the range's iterator stands -/
def LapEnd (h₀ : Heap) (L : Addr) (m₀ : Str → Option Value) (l c I : Addr) (oi : Obj) (s₁ : Shared) (f : Flow) (s₂ : Shared) : Prop :=
  (f = .next ∨ f = .cont) ∧ ∃ (us : List Value) (ns : List Int) (n : Nat) (o : Obj) (x : Option Value) (h' : Heap) (tk' : Nat) (m' : Str → Option Value), s₂ = { s₁ with heap := h', toks := tk' } ∧ Fr h₀ L h' m' ∧ News h₀ L h' [(l, listOf us.toArray n), (c, o), (I, oi)] ∧
    o.data = .cell x ∧ IntsAre us ns ∧ ns.length < 2000 ∧ ∀ z, z ≠ Str.ofString "lap" → z ≠ Str.ofString "a" → z ≠ Str.ofString "b" → z ≠ Str.ofString "name" → m' z = m₀ z
theorem LapEnd.intro {L I : Addr} {oi : Obj} {news : List (Addr × Obj)} {s₁ : Shared} {us : List Value} {ns : List Int} {n tk' : Nat} {o : Obj} {x : Option Value} {h' : Heap} {m' : Str → Option Value} {f : Flow}
    (hf : f = .next ∨ f = .cont) (F : Fr h₀ L h' m') (N : News h₀ L h' news) (hl : (l, listOf us.toArray n) ∈ news) (hc : (c, o) ∈ news) (ho : (I, oi) ∈ news) (hd : o.data = .cell x) (hi : IntsAre us ns) (hlen : ns.length < 2000)
    (hz : ∀ z, z ≠ Str.ofString "lap" → z ≠ Str.ofString "a" → z ≠ Str.ofString "b" → z ≠ Str.ofString "name" → m' z = m₀ z) : LapEnd h₀ L m₀ l c I oi s₁ f { s₁ with heap := h', toks := tk' } :=
  ⟨hf, us, ns, n, o, x, h', tk', m', rfl, F, fun p hp => N p (by
    rcases List.mem_cons.mp hp with rfl | hp
    · exact hl
    · rcases List.mem_cons.mp hp with rfl | hp
      · exact hc
      · rcases List.mem_cons.mp hp with rfl | hp
        · exact ho
        · cases hp), hd, hi, hlen, hz⟩

theorem lap_loop {r : Addr} {t₀ u₀ v₀ : Tok} {us0 : List Value} {ns0 : List Int} {n0 : Nat} {o0 : Obj} {x0 : Option Value}
    (hh : A.handled = none) (hr : IsRange s.heap r 0 2 1 t₀ u₀ v₀) (F : Fr h₀ env.locals s.heap m₀) (N : News h₀ env.locals s.heap [(l, listOf us0.toArray n0), (c, o0)]) (hi : IntsAre us0 ns0) (hlen : ns0.length < 2000) (hd : o0.data = .cell x0)
    (turn : ∀ (I : Addr) (oi : Obj) (k : Int) (t : Tok) (us : List Value) (ns : List Int) (n : Nat) (o : Obj) (x v1 v2 v3 : Option Value) (h : Heap) (tk : Nat), @LT.lt Nat _ l I → @LT.lt Nat _ c I → IntsAre us ns → ns.length < 2000 → o.data = .cell x →
      Fr h₀ env.locals h (fun y => if y = Str.ofString "lap" then some (.int k t) else if y = Str.ofString "a" then v1 else if y = Str.ofString "b" then v2 else if y = Str.ofString "name" then v3 else m₀ y) →
      News h₀ env.locals h [(l, listOf us.toArray n), (c, o), (I, oi)] →
      wpAny (model prog w) A (execs body env) (fun f s₂ => LapEnd h₀ env.locals m₀ l c I oi { s with heap := h, toks := tk } f s₂) E { s with heap := h, toks := tk })
    (done : ∀ (m : Str → Option Value) (h : Heap) (tk : Nat), Fr h₀ env.locals h m → News h₀ env.locals h [] → Q .next { s with heap := h, toks := tk }) :
    wpAny (model prog w) A (pyIter (.ref r)) (fun it s₂ => LoopAtV prog w A h₀ env (Str.ofString "lap") body Q E it s₂) E s := by
  have fr : ∀ (m : Str → Option Value) (v : Option Value), (∀ z, z ≠ Str.ofString "lap" → z ≠ Str.ofString "a" → z ≠ Str.ofString "b" → z ≠ Str.ofString "name" → m z = m₀ z) →
      (fun y => if y = Str.ofString "lap" then v else m y) =
      fun y => if y = Str.ofString "lap" then v else if y = Str.ofString "a" then m (Str.ofString "a") else if y = Str.ofString "b" then m (Str.ofString "b") else if y = Str.ofString "name" then m (Str.ofString "name") else m₀ y := by
    intro m v hz
    funext y
    by_cases a : y = Str.ofString "lap"
    · rw [if_pos a, if_pos a]
    · rw [if_neg a, if_neg a]
      by_cases b : y = Str.ofString "a"
      · rw [if_pos b, b]
      · rw [if_neg b]
        by_cases d : y = Str.ofString "b"
        · rw [if_pos d, d]
        · rw [if_neg d]
          by_cases e : y = Str.ofString "name"
          · rw [if_pos e, e]
          · rw [if_neg e]; exact hz y a b d e
  refine wpAny_pyIter_range hr (by decide) ?_
  have W := (Walks.range (prog := prog) (w := w) hh s.heap.objs.size 0 1 2).bound
  have hls : l < s.heap.objs.size := Heap.lt_size (N _ (.head _)).1
  have hcs : c < s.heap.objs.size := Heap.lt_size (N _ (.tail _ (.head _))).1
  refine ⟨s.heap.objs.size, [s.heap.objs.size], [s.heap.objs.size], 2, _, _, m₀, [(l, listOf us0.toArray n0), (c, o0)],
    (fun _ m nx => ∃ (us : List Value) (ns : List Int) (n : Nat) (o : Obj) (x : Option Value), nx = [(l, listOf us.toArray n), (c, o)] ∧ IntsAre us ns ∧ ns.length < 2000 ∧ o.data = .cell x ∧ ∀ z, z ≠ Str.ofString "lap" → z ≠ Str.ofString "a" → z ≠ Str.ofString "b" → z ≠ Str.ofString "name" → m z = m₀ z),
    rfl, W, ?_, ?_, ?_, (by show IsRangeIter _ _ _ _ _; rw [show Builtin.Range.rangeSize 0 2 1 = 2 from rfl]; simpa using Heap.get?_push_size _ rfl), F.push _, (fun p hp => ⟨Heap.get?_push_of_some _ (N p hp).1, (N p hp).2⟩), ⟨us0, ns0, n0, o0, x0, rfl, hi, hlen, hd, fun _ _ _ _ _ => rfl⟩, ?_, ?_⟩
  · intro hm
    exact absurd F.ns.lt ((List.mem_singleton.mp hm) ▸ Nat.lt_irrefl _)
  · intro b hb
    rw [List.mem_singleton.mp hb]
    exact next_is_new F
  · intro p hp hI
    exact absurd (Heap.lt_size (N p hp).1) ((List.mem_singleton.mp hI) ▸ Nat.lt_irrefl _)
  · rintro i v m₁ nx s₁ own ⟨hh₁, tk₁, rfl⟩ hlt ⟨_, t, rfl⟩ ⟨us, ns, n, o, x, rfl, hf, hfl, hfd, hz⟩ hoff hown hget hall hst F₁ N₁
    have hst' : hh₁.get? s.heap.objs.size = some _ := hst
    have hI := hall s.heap.objs.size (.head _) (next_is_new F) _ hst'
    have N₂ : News h₀ env.locals hh₁ [(l, listOf us.toArray n), (c, o), (s.heap.objs.size, _)] := fun p hp => N₁ p (by
      rcases List.mem_cons.mp hp with rfl | hp
      · exact List.mem_append_right _ (.head _)
      · rcases List.mem_cons.mp hp with rfl | hp
        · exact List.mem_append_right _ (.tail _ (.head _))
        · rcases List.mem_cons.mp hp with rfl | hp
          · exact List.mem_append_left _ hI
          · cases hp)
    rw [fr m₁ _ hz] at F₁
    refine wpAny_mono (turn s.heap.objs.size _ _ t us ns n o x _ _ _ hh₁ tk₁ hls hcs hf hfl hfd F₁ N₂) ?_ fun _ _ e => e
    rintro f s₂ ⟨hfl2, us', ns', n', o', x', h', tk', m', rfl, F', N', hd', hi', hl', hz'⟩
    have out : LoopStepU h₀ env.locals [s.heap.objs.size] own (fun m nx => ∃ (us : List Value) (ns : List Int) (n : Nat) (o : Obj) (x : Option Value), nx = [(l, listOf us.toArray n), (c, o)] ∧ IntsAre us ns ∧ ns.length < 2000 ∧ o.data = .cell x ∧ ∀ z, z ≠ Str.ofString "lap" → z ≠ Str.ofString "a" → z ≠ Str.ofString "b" → z ≠ Str.ofString "name" → m z = m₀ z)
        { s with heap := hh₁, toks := tk₁ } .next { { s with heap := hh₁, toks := tk₁ } with heap := h', toks := tk' } := by
      refine ⟨rfl, h', tk', m', [(l, listOf us'.toArray n'), (c, o')], rfl, F', fun p hp => ?_, fun p hp hq => ?_, us', ns', n', o', x', rfl, hi', hl', hd', hz'⟩
      · rcases List.mem_append.mp hp with hp | hp
        · have e1 := List.mem_singleton.mp (hown p hp)
          have e2 := hget p hp
          rw [e1] at e2
          have e3 : p = (s.heap.objs.size, _) := Prod.ext e1 (Option.some.inj (e2.symm.trans hst'))
          rw [e3]
          exact N' _ (.tail _ (.tail _ (.head _)))
        · rcases List.mem_cons.mp hp with rfl | hp
          · exact N' _ (.head _)
          · rcases List.mem_cons.mp hp with rfl | hp
            · exact N' _ (.tail _ (.head _))
            · cases hp
      · have e1 := List.mem_singleton.mp hq
        rcases List.mem_cons.mp hp with rfl | hp
        · exact absurd hls (e1 ▸ Nat.lt_irrefl _)
        · rcases List.mem_cons.mp hp with rfl | hp
          · exact absurd hcs (e1 ▸ Nat.lt_irrefl _)
          · cases hp
    rcases hfl2 with rfl | rfl
    · exact .next out
    · exact .cont out
  · rintro h' tk' m' nx F' _ _ _
    exact done m' h' tk' F' fun p hp => nomatch hp
end

theorem bit_big (x : Int) : -2 ^ x.natAbs ≤ x ∧ x < 2 ^ x.natAbs := by
  have h : (x.natAbs : Int) < ((2 ^ x.natAbs : Nat) : Int) := by exact_mod_cast Nat.lt_two_pow_self
  rw [kbt_cast] at h
  omega
theorem pow_mono' (k d : Nat) : (2 : Int) ^ k ≤ 2 ^ (k + d) := by
  induction d with
  | zero => exact Int.le_refl _
  | succ d ih => rw [← Nat.add_assoc, Int.pow_succ]; have := two_pos (k + d); omega
theorem bitInd {P : Int → Int → Prop} (base : ∀ x y : Int, (x = 0 ∨ x = -1) → (y = 0 ∨ y = -1) → P x y) (step : ∀ x y, P (x / 2) (y / 2) → P x y) : ∀ x y, P x y := by
  have all : ∀ (k : Nat) (x y : Int), -2 ^ k ≤ x → x < 2 ^ k → -2 ^ k ≤ y → y < 2 ^ k → P x y := by
    intro k
    induction k with
    | zero => intro x y a b c d; rw [Int.pow_zero] at *; exact base x y (by omega) (by omega)
    | succ k ih => intro x y a b c d; rw [Int.pow_succ] at *; exact step x y (ih _ _ (by omega) (by omega) (by omega) (by omega))
  intro x y
  have h1 := bit_big x
  have h2 := bit_big y
  have h3 := pow_mono' x.natAbs y.natAbs
  have h4 := pow_mono' y.natAbs x.natAbs
  rw [Nat.add_comm] at h4
  exact all (x.natAbs + y.natAbs) x y (by omega) (by omega) (by omega) (by omega)
theorem BitOp.div {op f : Int → Int → Int} (o : BitOp op f) (x y : Int) : op x y / 2 = op (x / 2) (y / 2) ∧ op x y % 2 = f (x % 2) (y % 2) := by
  have h := o.hop x y
  have hb := o.h01 x y
  omega
theorem xorXor (x y : Int) : Builtin.bitXor (Builtin.bitXor x y) y = x := by
  refine bitInd (P := fun x y => Builtin.bitXor (Builtin.bitXor x y) y = x) (by rintro x y (rfl | rfl) (rfl | rfl) <;> decide +kernel) (fun x y ih => ?_) x y
  rw [hXor, (opXor.div x y).1, ih, (opXor.div x y).2]
  unfold fXor
  split <;> split <;> omega
theorem xorAnd (x y : Int) : Builtin.bitXor (Builtin.bitXor x y) (Builtin.bitAnd x y) = Builtin.bitOr x y := by
  refine bitInd (P := fun x y => Builtin.bitXor (Builtin.bitXor x y) (Builtin.bitAnd x y) = Builtin.bitOr x y) (by rintro x y (rfl | rfl) (rfl | rfl) <;> decide +kernel) (fun x y ih => ?_) x y
  rw [hXor, (opXor.div x y).1, (opXor.div x y).2, (opAnd.div x y).1, (opAnd.div x y).2, ih, hOr x y]
  unfold fXor fAnd fOr
  split <;> split <;> split <;> split <;> omega
theorem andXor (x y : Int) : Builtin.bitAnd (Builtin.bitAnd x y) (Builtin.bitXor x y) = 0 := by
  refine bitInd (P := fun x y => Builtin.bitAnd (Builtin.bitAnd x y) (Builtin.bitXor x y) = 0) (by rintro x y (rfl | rfl) (rfl | rfl) <;> decide +kernel) (fun x y ih => ?_) x y
  rw [hAnd, (opXor.div x y).1, (opXor.div x y).2, (opAnd.div x y).1, (opAnd.div x y).2, ih]
  unfold fXor fAnd
  split <;> split <;> split <;> omega
end Mine

namespace Mine
theorem orLow (x y : Int) : (x < 0 → x ≤ Builtin.bitOr x y) ∧ (y < 0 → y ≤ Builtin.bitOr x y) ∧ (0 ≤ x → 0 ≤ y → 0 ≤ Builtin.bitOr x y) := by
  refine bitInd (P := fun x y => (x < 0 → x ≤ Builtin.bitOr x y) ∧ (y < 0 → y ≤ Builtin.bitOr x y) ∧ (0 ≤ x → 0 ≤ y → 0 ≤ Builtin.bitOr x y)) (by rintro x y (rfl | rfl) (rfl | rfl) <;> decide +kernel) (fun x y ih => ?_) x y
  have h := hOr x y
  have e : 0 ≤ fOr (x % 2) (y % 2) ∧ x % 2 ≤ fOr (x % 2) (y % 2) ∧ y % 2 ≤ fOr (x % 2) (y % 2) := by unfold fOr; split <;> omega
  omega
theorem opFacts {a b : Int} (ha : -2147483648 < a) (ha' : a < 2147483648) (hb : -2147483648 < b) (hb' : b < 2147483648) :
    (Builtin.bitAnd b a = Builtin.bitAnd a b ∧ Builtin.bitOr b a = Builtin.bitOr a b ∧ Builtin.bitXor b a = Builtin.bitXor a b) ∧
    (Builtin.bitXor (Builtin.bitXor a b) b = a ∧ Builtin.bitXor (Builtin.bitXor a b) (Builtin.bitAnd a b) = Builtin.bitOr a b ∧ Builtin.bitAnd (Builtin.bitAnd a b) (Builtin.bitXor a b) = 0) ∧
    (-2147483648 ≤ Builtin.bitAnd a b ∧ Builtin.bitAnd a b < 2147483648) ∧ (-2147483648 < Builtin.bitOr a b ∧ Builtin.bitOr a b < 2147483648) ∧ (-2147483648 ≤ Builtin.bitXor a b ∧ Builtin.bitXor a b < 2147483648) ∧
    (Builtin.bitAnd a b = -2147483648 → Builtin.bitXor a b ≠ -2147483648) := by
  have hO := orLow a b
  have rO := opOr.range (x := a) (y := b) (by omega) ha' (by omega) hb'
  refine ⟨⟨bitAnd_comm _ _, ?_, ?_⟩, ⟨xorXor a b, xorAnd a b, andXor a b⟩, opAnd.range (by omega) ha' (by omega) hb', ⟨?_, rO.2⟩, opXor.range (by omega) ha' (by omega) hb', fun e => ?_⟩
  · rw [bitOr_and, bitOr_and, bitAnd_comm]; omega
  · rw [bitXor_and, bitXor_and, bitAnd_comm]; omega
  · by_cases h1 : a < 0
    · have := hO.1 h1; omega
    · by_cases h2 : b < 0
      · have := hO.2.1 h2; omega
      · have := hO.2.2 (by omega) (by omega); omega
  · rw [bitXor_and]; omega
theorem opSelf (a : Int) : Builtin.bitAnd a a = a ∧ Builtin.bitOr a a = a ∧ Builtin.bitXor a a = 0 := by
  refine ⟨bitAnd_self a, ?_, bitXor_self a⟩
  rw [bitOr_and, bitAnd_self]; omega

def NoneC (fa : Addr) (prog : Program) (w : World) (K : Frag) (p : Program) (loose : List Str) (mean : ExcName → Option Value) (mg mb : Str → Option Value) : Prop :=
  ∀ (dp un : Nat) (gd : Option (List Code)) (cn : Str) (cs : Scope) (ca : Addr) (ccd : Value) (cl : List (Str × Addr)) (outer : List Env) (A₀ : Around) (base h₀ : Heap) (L : Addr) (m : Str → Option Value) (s : Shared) (Q E : Value → Shared → Prop)
    (news : List (Addr × Obj)) (nm : Str) (tn : Tok) (va vb : Value),
    Below A₀ base outer h₀ → Fr h₀ L s.heap m → K.In h₀ → News h₀ L s.heap news → Top p loose mean mg mb h₀ → cs.kind = .function →
    (va = .none ∨ (∃ (a : Int) (t : Tok), va = .int a t) ∧ vb = .none) → dp + 2 < recursionLimit → un + 200 < cLine →
    (∀ (h' : Heap) (tk' : Nat), Fr h₀ L h' m → News h₀ L h' news → Q .none { s with heap := h', toks := tk' }) →
    wpAny (model prog w) (ktrTop dp un gd cn cs L ca ccd cl outer) (call (.ref fa) [.str nm tn, va, vb]) Q E s

theorem itemN (w : World) (p : Program) (loose : List Str) (mean : ExcName → Option Value) (mg mb : Str → Option Value) : NoneC 21 PySem.Challenge.rw_pq1389_01.row.prog w (Mine.hd.heap_39 w.params) p loose mean mg mb := by
  unfold NoneC
  k_fill
  w_top off
  intro dp un gd cn cs ca ccd cl outer A₀ base h₀ L m s Q E news nm tn va vb B F X N T hck hv hd hu hret
  rcases hv with rfl | ⟨⟨a, t, rfl⟩, rfl⟩
  all_goals (
    refine wpAny_call ?_
    k_dflt cell_enter
    k_steps)
  all_goals exact hret _ _ (by assumption) (by assumption)

theorem toldN (w : World) (p : Program) (loose : List Str) (mean : ExcName → Option Value) (mg mb : Str → Option Value) : NoneC 56 PySem.Challenge.rw_pq1389_01.row.prog w (Mine.hd.heap_39 w.params) p loose mean mg mb := by
  unfold NoneC
  k_fill
  w_top off
  intro dp un gd cn cs ca ccd cl outer A₀ base h₀ L m s Q E news nm tn va vb B F X N T hck hv hd hu hret
  rcases hv with rfl | ⟨⟨a, t, rfl⟩, rfl⟩
  all_goals (
    refine wpAny_call ?_
    k_dflt cell_enter
    k_steps)
  all_goals exact hret _ _ (by assumption) (by assumption)
end Mine

namespace Mine
def isN : Value → Bool
  | .none => true
  | _ => false
theorem none_in {prog : Program} {w : World} {A : Around} {E : Value → Shared → Prop} {s : Shared} {h₀ : Heap} {L l : Addr} {news : List (Addr × Obj)} {ys : List Value} {n : Nat} {b : Bool} {Q : Value → Shared → Prop}
    (N : News h₀ L s.heap news) (hm : (l, listOf ys.toArray n) ∈ news) (hk : ∀ y ∈ ys, y = .none ∨ ∃ a t, y = .int a t) (hb : ys.any isN = b) (h : Q (.bool b) s) : wpAny (model prog w) A (compareOp .In .none (.ref l)) Q E s := by
  refine PySem.SeqAt.in_listAt isN (isL N hm) (fun y hy => ?_) ?_
  · rcases hk y (by simpa using hy) with rfl | ⟨a, t, rfl⟩
    · intro prog w E Q h
      unfold eqBool
      refine wpAny_holding ?_
      show wpAny _ _ (if (Value.none == Value.none) = true then _ else _) Q E _
      rw [if_pos (show (Value.none == Value.none) = true from rfl)]
      exact wpAny_bind (wpAny_rule (wpAny_pure h))
    · exact PySem.SeqAt.EqAt.int_none a t
  · rw [List.any_toArray, hb]; exact h

section
variable {prog : Program} {w : World} {A : Around} {E : Value → Shared → Prop} {s : Shared} {h₀ : Heap} {L : Addr} {m : Str → Option Value} {env : Env}
def keyAt : Nat → Str
  | 0 => Str.ofString "bitwAnd"
  | 1 => Str.ofString "bitwOr"
  | _ => Str.ofString "bitwXor"
def DictSrc (prog : Program) (w : World) (A : Around) (h₀ : Heap) (L : Addr) (m : Str → Option Value) (env : Env) (elt : Expr) (x : Str) (scope : Scope) (cl : List (Str × Addr)) (Fin : Shared → List Value → List (Addr × Obj) → Prop) (xv : Value) (s₁ : Shared) : Prop :=
  ∃ d od news v1 v2 v3, xv = .ref d ∧ A.handled = none ∧ Fr h₀ L s₁.heap m ∧ News h₀ L s₁.heap news ∧ (d, od) ∈ news ∧ (d == sysModules) = false ∧ od.IsDictOf (PySem.strKind prog w) [(keyAt 0, v1), (keyAt 1, v2), (keyAt 2, v3)] ∧
    ∀ g : Heap, LCg.CompRest prog w A h₀ L m env elt x scope cl { s₁ with heap := g } (fun nw => (d, od) ∈ nw) (fun i v => ∃ t, v = .str (keyAt i) t) (Fin { s₁ with heap := g }) 3 0 [] news
theorem DictSrc.intro {elt : Expr} {x : Str} {scope : Scope} {cl : List (Str × Addr)} {Fin : Shared → List Value → List (Addr × Obj) → Prop} {d : Addr} {od : Obj} {kvs : List (Str × Value)} {v1 v2 v3 : Value} {news : List (Addr × Obj)} {s₁ : Shared}
    (hh : A.handled = none) (F : Fr h₀ L s₁.heap m) (N : News h₀ L s₁.heap news) (hm : (d, od) ∈ news) (lo : (d == sysModules) = false) (hd : od.IsDictOf (PySem.strKind prog w) kvs) (hk : kvs = [(keyAt 0, v1), (keyAt 1, v2), (keyAt 2, v3)])
    (h : ∀ g : Heap, LCg.CompRest prog w A h₀ L m env elt x scope cl { s₁ with heap := g } (fun nw => (d, od) ∈ nw) (fun i v => ∃ t, v = .str (keyAt i) t) (Fin { s₁ with heap := g }) 3 0 [] news) :
    DictSrc prog w A h₀ L m env elt x scope cl Fin (.ref d) s₁ := ⟨d, od, news, v1, v2, v3, rfl, hh, F, N, hm, lo, hk ▸ hd, h⟩

theorem comp_dict {elt iter : Expr} {x : Str} {px : Pos} {scope : Scope} {cl : List (Str × Addr)} {pos : Pos} {Q : Value → Shared → Prop} (_F₀ : Fr h₀ L s.heap m)
    (hclos : closureFor scope env = pure cl) (hcell : ∀ y ∈ scope.names, y.2 ≠ .cell) (hkind : scope.kind = .function)
    (hnames : ∀ y ∈ scope.names, y.2 = .local → scope.names.lookup y.1 = some .local) (hx : scope.names.lookup x = some .local)
    (h : wpAny (model prog w) A (eval iter env) (DictSrc prog w A h₀ L m env elt x scope cl (fun s₂ => LCg.FinE h₀ L m s₂ Q)) E s)
    (hs : ∀ x, foldedSetIterable iter env x = pure x := by intro _; rfl) :
    wpAny (model prog w) A (eval (.ListComp elt [⟨.Name x px, iter, [], 0⟩] scope pos) env) Q E s := by
  rw [eval_ListComp]
  refine wpAny_comprehension_free (use := none) rfl hs hclos hkind hnames (wpAny_mono h (fun xv s₁ h₁ => ?_) fun _ _ e => e)
  obtain ⟨d, od, news, v1, v2, v3, rfl, hh, F, N, hm, lo, hd, R⟩ := h₁
  have hget := (N _ hm).1
  obtain ⟨es, ep, hr⟩ := id hd
  have hat : ∀ h : Heap, h.get? d = some od → h.DictAt (PySem.strKind prog w) d [(keyAt 0, v1), (keyAt 1, v2), (keyAt 2, v3)] ep := fun h e => ⟨od, es, e, hr⟩
  have hlt : d < s₁.heap.objs.size := Heap.lt_size hget
  refine wpAny_pyIter_dict lo (hat _ hget) ?_
  have hne : d ≠ s₁.heap.objs.size := Nat.ne_of_lt hlt
  have W : Walks prog w A s₁.heap.objs.size [s₁.heap.objs.size, d] [s₁.heap.objs.size] 3 (fun i v => ∃ t, v = .str (keyAt i) t) _ :=
    (Walks.dictKeys (knd := PySem.strKind prog w) hh s₁.heap.objs.size d hne [(keyAt 0, v1), (keyAt 1, v2), (keyAt 2, v3)] ep).weaken (by
      rintro i v ⟨k, xv, hx, hkey⟩
      obtain ⟨t, rfl⟩ := Value.isStrOf_shape hkey
      refine ⟨t, ?_⟩
      match i, hx with
      | 0, hx => simp at hx; rw [hx.1]
      | 1, hx => simp at hx; rw [hx.1]
      | 2, hx => simp at hx; rw [hx.1]
      | n + 3, hx => simp at hx)
  refine LCg.block_U (S := fun nw => (d, od) ∈ nw) W (by rw [PySem.sizeLine_eq]; decide) (fun i h st => by obtain ⟨o, e, _⟩ := st.1; exact ⟨o, e⟩) (fun i h h' o nw st e e' _ N' hS => ?_) hcell hkind hx ⟨⟨_, Heap.get?_push_size _ rfl, rfl, rfl⟩, (hat _ hget).push _⟩ (fun b hb => ?_)
    (F.push _) (fun p hp => ⟨Heap.get?_push_of_some _ (N p hp).1, (N p hp).2⟩) (Nat.ne_of_lt F.ns.lt) (next_is_new F) (fun p hp => Nat.ne_of_lt (Heap.lt_size (N p hp).1)) hm (R _) ?_
  · refine ⟨?_, hat _ (N' _ hS).1⟩
    obtain ⟨o', q, r⟩ := st.1
    rw [e] at q
    cases q
    exact ⟨o, e', r⟩
  · show b < (s₁.heap.push _).objs.size
    rw [Heap.size_push]
    rcases List.mem_cons.mp hb with rfl | hb
    · exact Nat.lt_succ_self _
    · rw [List.mem_singleton.mp hb]; exact Nat.lt_succ_of_lt hlt
  · intro D C h tk m' ys news' F' N' o1 hn hC₀ hD₀ hCL hDL hCD offC fin
    refine ⟨m', hn, fun h'' hs'' => fin D h'' tk (F'.change hs'' hCL hC₀) (fun p hp => ?_) o1⟩
    refine ⟨hs''.extBut _ _ ?_ (N' p hp).1, (N' p hp).2⟩
    rcases List.mem_cons.mp hp with rfl | hp
    · exact Ne.symm hCD
    · exact offC p hp

theorem ld_free {x : Str} {pos : Pos} {v : Value} {Q : Value → Shared → Prop} {news : List (Addr × Obj)} {c : Addr} {o : Obj} (N : News h₀ L s.heap news) (hc : env.cells.lookup x = some c) (hm : (c, o) ∈ news) (hd : o.data = .cell (some v)) (h : Q v s)
    (hk : env.scope.kind = .function := by rfl) (hx : env.kindOf x = some .free := by rfl) (hb : (x == ("__debug__" : Str)) = false := by decide) (hn : (x == ("__classdict__" : Str)) = false := by decide) :
    wpAny (model prog w) A (eval (.Name x pos) env) Q E s := wpAny_Name (wpAny_loadName_free hk hx hc ⟨o, N.get hm, hd⟩ h hn) hb
end
end Mine

namespace Mine
section
variable {prog : Program} {w : World} {K : Frag} {p : Program} {loose : List Str} {mean : ExcName → Option Value} {mg mb : Str → Option Value}
  {dp un : Nat} {gd : Option (List Code)} {cn : Str} {cs : Scope} {ca : Addr} {ccd : Value} {cl : List (Str × Addr)} {outer : List Env} {A₀ : Around} {base h₀ : Heap} {L : Addr} {m : Str → Option Value} {s : Shared} {Q E : Value → Shared → Prop} {news : List (Addr × Obj)}
theorem shells_use (C : ShellsC prog w K p loose mean mg mb) {sc : Addr} {vs : List Value} {ns : List Int}
    (B : Below A₀ base outer h₀) (F : Fr h₀ L s.heap m) (X : K.In h₀) (N : News h₀ L s.heap news) (T : Top p loose mean mg mb h₀) (hck : cs.kind = .function)
    (hL : base.IsList sc vs.toArray) (hI : IntsAre vs ns) (hlen : ns.length < 100) (hd : dp + 1 < recursionLimit) (hu : un + 100 < cLine)
    (ret : ∀ (l : Addr) (us : List Value) (ms : List Int) (n' : Nat) (h' : Heap) (tk' : Nat), Fr h₀ L h' m → News h₀ L h' ((l, listOf us.toArray n') :: news) → (∀ q ∈ news, q.1 < l) → IntsAre us ms → ms.length < 2000 → Q (.ref l) { s with heap := h', toks := tk' }) :
    wpAny (model prog w) (ktrTop dp un gd cn cs L ca ccd cl outer) (call (.ref 28) [.ref sc]) Q E s :=
  C _ _ _ _ _ _ _ _ _ _ _ _ _ _ _ _ _ _ _ _ _ B F X N T hck hL hI hlen hd hu ret
theorem side_use (C : SideC prog w K p loose mean mg mb) {l : Addr} {us : List Value} {ns : List Int} {n : Nat} {rest : List (Addr × Obj)}
    (B : Below A₀ base outer h₀) (F : Fr h₀ L s.heap m) (X : K.In h₀) (N : News h₀ L s.heap news) (T : Top p loose mean mg mb h₀) (hck : cs.kind = .function)
    (P : Pick l (listOf us.toArray n) news rest) (hI : IntsAre us ns) (hlen : ns.length < 2000) (hd : dp + 2 < recursionLimit) (hu : un + 200 < cLine)
    (ret0 : ∀ (us' : List Value) (ns' : List Int) (n' : Nat) (h' : Heap) (tk' : Nat), IntsAre us' ns' → ns'.length ≤ ns.length → Fr h₀ L h' m → News h₀ L h' ((l, listOf us'.toArray n') :: rest) → Q .none { s with heap := h', toks := tk' })
    (ret : ∀ (r : Int) (t' : Tok) (us' : List Value) (ns' : List Int) (n' : Nat) (h' : Heap) (tk' : Nat), -2147483648 < r → r < 2147483648 → IntsAre us' ns' → ns'.length ≤ ns.length → Fr h₀ L h' m → News h₀ L h' ((l, listOf us'.toArray n') :: rest) → Q (.int r t') { s with heap := h', toks := tk' }) :
    wpAny (model prog w) (ktrTop dp un gd cn cs L ca ccd cl outer) (call (.ref 42) [.ref l]) Q E s :=
  C _ _ _ _ _ _ _ _ _ _ _ _ _ _ _ _ _ _ _ _ _ _ B F X (fun q hq => N q (P.spec.1 q hq)) T hck P.spec.2 hI hlen hd hu ret0 ret
theorem op_use {fa : Addr} {nm : Str} {op : Int → Int → Int} (C : OpC fa nm op prog w K p loose mean mg mb) {a b : Int} {tn ta tb : Tok}
    (B : Below A₀ base outer h₀) (F : Fr h₀ L s.heap m) (X : K.In h₀) (N : News h₀ L s.heap news) (T : Top p loose mean mg mb h₀) (hck : cs.kind = .function)
    (h1 : -2147483648 ≤ a ∧ a < 2147483648) (h2 : -2147483648 ≤ b ∧ b < 2147483648) (hd : dp + 2 < recursionLimit) (hu : un + 200 < cLine)
    (ret0 : op a b = -2147483648 → ∀ (h' : Heap) (tk' : Nat), Fr h₀ L h' m → News h₀ L h' news → Q .none { s with heap := h', toks := tk' })
    (ret : op a b ≠ -2147483648 → ∀ (t : Tok) (h' : Heap) (tk' : Nat), Fr h₀ L h' m → News h₀ L h' news → Q (.int (op a b) t) { s with heap := h', toks := tk' }) :
    wpAny (model prog w) (ktrTop dp un gd cn cs L ca ccd cl outer) (call (.ref fa) [.str nm tn, .int a ta, .int b tb]) Q E s :=
  C _ _ _ _ _ _ _ _ _ _ _ _ _ _ _ _ _ _ _ _ _ _ _ B F X N T hck h1.1 h1.2 h2.1 h2.2 hd hu ret0 ret
theorem none_use {fa : Addr} (C : NoneC fa prog w K p loose mean mg mb) {nm : Str} {tn : Tok} {va vb : Value}
    (B : Below A₀ base outer h₀) (F : Fr h₀ L s.heap m) (X : K.In h₀) (N : News h₀ L s.heap news) (T : Top p loose mean mg mb h₀) (hck : cs.kind = .function)
    (hv : va = .none ∨ (∃ (a : Int) (t : Tok), va = .int a t) ∧ vb = .none) (hd : dp + 2 < recursionLimit) (hu : un + 200 < cLine)
    (ret : ∀ (h' : Heap) (tk' : Nat), Fr h₀ L h' m → News h₀ L h' news → Q .none { s with heap := h', toks := tk' }) :
    wpAny (model prog w) (ktrTop dp un gd cn cs L ca ccd cl outer) (call (.ref fa) [.str nm tn, va, vb]) Q E s :=
  C _ _ _ _ _ _ _ _ _ _ _ _ _ _ _ _ _ _ _ _ _ _ B F X N T hck hv hd hu ret
end
local macro_rules | `(tactic| walk_at "call ref") => `(tactic| (k_here; k_dflt (refine' op_use (toldAnd _ _ _ _ _ _) ?k1 ?k2 ?k3 ?k4 ?k5 ?k6 ?k7 ?k8 ?k11 ?k12 ?_ ?_; (case k1 => k_asm); (case k2 => k_asm); (case k3 => k_asm); (case k4 => k_asm); (case k5 => k_asm); (case k6 => first | exact rfl | assumption); (case k7 => omega); (case k8 => omega); (case k11 => ktr_room); (case k12 => ktr_units)); (intro hv' h' tk' F' N'; (try dsimp only); (try k_sweep)); rotate_left; (intro hv' t' h' tk' F' N'; (try dsimp only); (try k_sweep)); (all_goals (try (exfalso; omega)))))
local macro_rules | `(tactic| walk_at "call ref") => `(tactic| (k_here; k_dflt (refine' op_use (toldOr _ _ _ _ _ _) ?k1 ?k2 ?k3 ?k4 ?k5 ?k6 ?k7 ?k8 ?k11 ?k12 ?_ ?_; (case k1 => k_asm); (case k2 => k_asm); (case k3 => k_asm); (case k4 => k_asm); (case k5 => k_asm); (case k6 => first | exact rfl | assumption); (case k7 => omega); (case k8 => omega); (case k11 => ktr_room); (case k12 => ktr_units)); (intro hv' h' tk' F' N'; (try dsimp only); (try k_sweep)); rotate_left; (intro hv' t' h' tk' F' N'; (try dsimp only); (try k_sweep)); (all_goals (try (exfalso; omega)))))
local macro_rules | `(tactic| walk_at "call ref") => `(tactic| (k_here; k_dflt (refine' op_use (toldXor _ _ _ _ _ _) ?k1 ?k2 ?k3 ?k4 ?k5 ?k6 ?k7 ?k8 ?k11 ?k12 ?_ ?_; (case k1 => k_asm); (case k2 => k_asm); (case k3 => k_asm); (case k4 => k_asm); (case k5 => k_asm); (case k6 => first | exact rfl | assumption); (case k7 => omega); (case k8 => omega); (case k11 => ktr_room); (case k12 => ktr_units)); (intro hv' h' tk' F' N'; (try dsimp only); (try k_sweep)); rotate_left; (intro hv' t' h' tk' F' N'; (try dsimp only); (try k_sweep)); (all_goals (try (exfalso; omega)))))
local macro_rules | `(tactic| walk_at "call ref") => `(tactic| (k_here; k_dflt (refine' op_use (itemAnd _ _ _ _ _ _) ?k1 ?k2 ?k3 ?k4 ?k5 ?k6 ?k7 ?k8 ?k11 ?k12 ?_ ?_; (case k1 => k_asm); (case k2 => k_asm); (case k3 => k_asm); (case k4 => k_asm); (case k5 => k_asm); (case k6 => first | exact rfl | assumption); (case k7 => omega); (case k8 => omega); (case k11 => ktr_room); (case k12 => ktr_units)); (intro hv' h' tk' F' N'; (try dsimp only); (try k_sweep)); rotate_left; (intro hv' t' h' tk' F' N'; (try dsimp only); (try k_sweep)); (all_goals (try (exfalso; omega)))))
local macro_rules | `(tactic| walk_at "call ref") => `(tactic| (k_here; k_dflt (refine' op_use (itemOr _ _ _ _ _ _) ?k1 ?k2 ?k3 ?k4 ?k5 ?k6 ?k7 ?k8 ?k11 ?k12 ?_ ?_; (case k1 => k_asm); (case k2 => k_asm); (case k3 => k_asm); (case k4 => k_asm); (case k5 => k_asm); (case k6 => first | exact rfl | assumption); (case k7 => omega); (case k8 => omega); (case k11 => ktr_room); (case k12 => ktr_units)); (intro hv' h' tk' F' N'; (try dsimp only); (try k_sweep)); rotate_left; (intro hv' t' h' tk' F' N'; (try dsimp only); (try k_sweep)); (all_goals (try (exfalso; omega)))))
local macro_rules | `(tactic| walk_at "call ref") => `(tactic| (k_here; k_dflt (refine' op_use (itemXor _ _ _ _ _ _) ?k1 ?k2 ?k3 ?k4 ?k5 ?k6 ?k7 ?k8 ?k11 ?k12 ?_ ?_; (case k1 => k_asm); (case k2 => k_asm); (case k3 => k_asm); (case k4 => k_asm); (case k5 => k_asm); (case k6 => first | exact rfl | assumption); (case k7 => omega); (case k8 => omega); (case k11 => ktr_room); (case k12 => ktr_units)); (intro hv' h' tk' F' N'; (try dsimp only); (try k_sweep)); rotate_left; (intro hv' t' h' tk' F' N'; (try dsimp only); (try k_sweep)); (all_goals (try (exfalso; omega)))))
local macro_rules | `(tactic| walk_at "call ref") => `(tactic| (k_here; (with_reducible show wpAny _ _ (call (Value.ref _) [Value.str _ _, _, _]) _ _ _); k_dflt (refine' none_use (toldN _ _ _ _ _ _) ?k1 ?k2 ?k3 ?k4 ?k5 ?k6 ?k7 ?k11 ?k12 ?_; (case k7 => first | exact Or.inl rfl | exact Or.inr ⟨⟨_, _, rfl⟩, rfl⟩); (case k1 => k_asm); (case k2 => k_asm); (case k3 => k_asm); (case k4 => k_asm); (case k5 => k_asm); (case k6 => first | exact rfl | assumption); (case k11 => ktr_room); (case k12 => ktr_units); k_whole); intro h' tk' F' N'; (try dsimp only); (try k_sweep)))
local macro_rules | `(tactic| walk_at "call ref") => `(tactic| (k_here; (with_reducible show wpAny _ _ (call (Value.ref _) [Value.str _ _, _, _]) _ _ _); k_dflt (refine' none_use (itemN _ _ _ _ _ _) ?k1 ?k2 ?k3 ?k4 ?k5 ?k6 ?k7 ?k11 ?k12 ?_; (case k7 => first | exact Or.inl rfl | exact Or.inr ⟨⟨_, _, rfl⟩, rfl⟩); (case k1 => k_asm); (case k2 => k_asm); (case k3 => k_asm); (case k4 => k_asm); (case k5 => k_asm); (case k6 => first | exact rfl | assumption); (case k11 => ktr_room); (case k12 => ktr_units); k_whole); intro h' tk' F' N'; (try dsimp only); (try k_sweep)))

local macro_rules | `(tactic| walk_at "exec For Name Call cons nil") => `(tactic| (k_here; (rename Fr _ _ _ _ => lF'); (with_unfolding_all refine' For_invVF lF' ?k1 ?k2 ?_; (case k1 => exact rfl); (case k2 => exact rfl); k_whole)))
local macro_rules | `(tactic| walk_at "pyIter ref") => `(tactic| (k_here; k_dflt ((rename Fr _ _ _ _ => lF'); (rename News _ _ _ _ => lN'); (rename IsRange _ _ _ _ _ _ _ _ => rgX); (with_unfolding_all refine' lap_loop ?hh rgX lF' lN' ?hi ?hlen ?hd ?_ ?_); (case hh => rfl); (case hi => assumption); (case hlen => assumption); (case hd => assumption); (all_goals (clear lF' lN' rgX)); (all_goals intros); (all_goals (try k_fold)))))
local macro_rules | `(tactic| walk_at "call ref") => `(tactic| (k_here; k_dflt (refine' shells_use (shellsC _ _ _ _ _ _) ?k1 ?k2 ?k3 ?k4 ?k5 ?k6 ?k7 ?k8 ?k9 ?k11 ?k12 ?_; (case k1 => k_asm); (case k2 => k_asm); (case k3 => k_asm); (case k4 => k_asm); (case k5 => k_asm); (case k6 => first | exact rfl | assumption); (case k7 => k_asm); (case k8 => assumption); (case k9 => omega); (case k11 => ktr_room); (case k12 => ktr_units); k_whole); intro l' us' ms' n' h' tk' F' N' hlt' hI' hlen'; (try dsimp only); (try k_lt hlt'); (try k_sweep)))
local macro_rules | `(tactic| walk_at "call ref") => `(tactic| (k_here; k_dflt (refine' side_use (sideC _ _ _ _ _ _) ?k1 ?k2 ?k3 ?k4 ?k5 ?k6 ?k7 ?k8 ?k9 ?k11 ?k12 ?_ ?_; (case k1 => k_asm); (case k2 => k_asm); (case k3 => k_asm); (case k4 => k_asm); (case k5 => k_asm); (case k6 => first | exact rfl | assumption); (case k7 => exact Pick.head (by k_all)); (case k8 => assumption); (case k9 => omega); (case k11 => ktr_room); (case k12 => ktr_units)); (intro us' ns' n' h' tk' hI' hle' F' N'; (try dsimp only); (try k_sweep)); rotate_left; (first
  | ((rename (-2147483648 : Int) < _ => hp'); (rename _ < (2147483648 : Int) => hq'); intro r' t' us' ns' n' h' tk' hlo' hhi' hI' hle' F' N'; (obtain ⟨⟨f1', f2', f3'⟩, ⟨f7', f8', f9'⟩, ⟨f10', f11'⟩, ⟨f12', f13'⟩, ⟨f14', f15'⟩, f16'⟩ := opFacts hp' hq' hlo' hhi'); (obtain ⟨g1', g2', g3'⟩ := opSelf r'); (try dsimp only); (try k_sweep))
  | (intro r' t' us' ns' n' h' tk' hlo' hhi' hI' hle' F' N'; (obtain ⟨g1', g2', g3'⟩ := opSelf r'); (try dsimp only); (try k_sweep)))))
local macro_rules | `(tactic| walk_at "eval ListComp") => `(tactic| (k_here; k_dflt (refine comp_dict (by k_asm) (by with_unfolding_all rfl) (by decide) (by rfl) (by decide) (by rfl) ?_)))
local macro_rules | `(tactic| walk_at "DictSrc") => `(tactic| (k_here; k_dflt (refine DictSrc.intro (by rfl) (by k_asm) (by k_asm) (by k_mem) (by assumption) (by assumption) (by rfl) ?_); intro g'))
local macro_rules | `(tactic| lcg_src) => `(tactic| k_mem)
local macro_rules | `(tactic| walk_at "compareOp In none ref") => `(tactic| (k_here; k_dflt (first
  | (refine none_in (b := false) (by k_asm) (by k_mem) ?_ (by rfl) ?_; rotate_left)
  | (refine none_in (b := true) (by k_asm) (by k_mem) ?_ (by rfl) ?_; rotate_left)); rotate_left; (intro y9 hy9; simp only [List.mem_cons, List.not_mem_nil, or_false] at hy9; rcases hy9 with rfl | rfl | rfl <;> first | exact Or.inl rfl | exact Or.inr ⟨_, _, rfl⟩)))

theorem law_holds : PySem.Challenge.rw_pq1389_01.Holds := Mine.hd (by
  k_go0
  (all_goals try k_fold)
  w_top off
  have hMk := kstMark
  k_steps
  all_goals first
    | exact LapEnd.intro (by first | exact Or.inl rfl | exact Or.inr rfl) (by assumption) (by assumption) (by k_mem) (by k_mem) (by k_mem) (by assumption) (by assumption) (Nat.lt_of_le_of_lt (Nat.le_trans (by assumption) (by assumption)) (by assumption)) (by intro z a1 a2 a3 a4; simp only [if_neg a1, if_neg a2, if_neg a3, if_neg a4])
    | (exfalso; omega))
end Mine


theorem PySem.Challenge.cw_pq1389_01_holds : PySem.Challenge.rw_pq1389_01.Holds :=
  Mine.law_holds
