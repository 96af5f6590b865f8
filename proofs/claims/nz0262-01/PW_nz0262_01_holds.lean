import PyProof.Rows.All
import Wide.All
import OpenK.AllK
import Wide.FinOn
import PySem.Challenge.RW_nz0262_01
open PySem PySem.W PyProof.Rows PySem.Spec PySem.Calls
set_option Elab.async false
set_option maxRecDepth 100000
set_option maxHeartbeats 0
namespace Mine
open_top hd for PySem.Challenge.rw_nz0262_01

section
/-- a drawn tree -/
inductive Tree where
  | all
  | leaf (n : Nat)
  | neg (t : Tree)
  | or (l r : Tree)
  | and (l r : Tree)
noncomputable def Tree.size : Tree → Nat
  | .all => 1
  | .leaf _ => 1
  | .neg t => t.size + 1
  | .or l r => l.size + r.size + 1
  | .and l r => l.size + r.size + 1
noncomputable def Tree.depth : Tree → Nat
  | .all => 1
  | .leaf _ => 1
  | .neg t => t.depth + 1
  | .or l r => max l.depth r.depth + 1
  | .and l r => max l.depth r.depth + 1
/-- every leaf's number lies below n -/
noncomputable def Tree.Below (n : Nat) : Tree → Prop
  | .all => True
  | .leaf k => k < n
  | .neg t => t.Below n
  | .or l r => l.Below n ∧ r.Below n
  | .and l r => l.Below n ∧ r.Below n
theorem Tree.Below.mono {n n' : Nat} (h : n ≤ n') : ∀ {t : Tree}, t.Below n → t.Below n'
  | .all, _ => trivial
  | .leaf _, x => Nat.lt_of_lt_of_le x h
  | .neg t, x => Below.mono (t := t) h x
  | .or l r, x => ⟨Below.mono (t := l) h x.1, Below.mono (t := r) h x.2⟩
  | .and l r, x => ⟨Below.mono (t := l) h x.1, Below.mono (t := r) h x.2⟩
/-- whether it is met -/
noncomputable def Tree.met (bs : List Bool) : Tree → Bool
  | .all => true
  | .leaf n => bs.getD n false
  | .neg t => !t.met bs
  | .or l r => l.met bs || r.met bs
  | .and l r => l.met bs && r.met bs
/-- the leaves that are asked, in order -/
noncomputable def Tree.asks (bs : List Bool) : Tree → List Nat
  | .all => []
  | .leaf n => [n]
  | .neg t => t.asks bs
  | .or l r => if l.met bs then l.asks bs else l.asks bs ++ r.asks bs
  | .and l r => if l.met bs then l.asks bs ++ r.asks bs else l.asks bs
/-- the left side of each "and" opened -/
noncomputable def Tree.row : Tree → List Tree
  | .and l r => l.row ++ [r]
  | .all => [.all]
  | .leaf n => [.leaf n]
  | .neg t => [.neg t]
  | .or l r => [.or l r]
/-- a row, from left to right, up to the first that is not met -/
noncomputable def rowMet (bs : List Bool) : List Tree → Bool
  | [] => true
  | t :: r => if t.met bs then rowMet bs r else false
noncomputable def rowAsks (bs : List Bool) : List Tree → List Nat
  | [] => []
  | t :: r => if t.met bs then t.asks bs ++ rowAsks bs r else t.asks bs
theorem rowMet_append (bs : List Bool) (t : Tree) : ∀ l : List Tree, rowMet bs (l ++ [t]) = (rowMet bs l && t.met bs)
  | [] => by simp [rowMet]
  | u :: r => by simp only [List.cons_append, rowMet, rowMet_append bs t r]; cases u.met bs <;> simp
theorem rowAsks_append (bs : List Bool) (t : Tree) : ∀ l : List Tree, rowAsks bs (l ++ [t]) = if rowMet bs l then rowAsks bs l ++ t.asks bs else rowAsks bs l
  | [] => by simp [rowMet, rowAsks]
  | u :: r => by
    simp only [List.cons_append, rowMet, rowAsks, rowAsks_append bs t r]
    by_cases h : u.met bs = true <;> by_cases h' : rowMet bs r = true <;> simp [h, h']
theorem row_met (bs : List Bool) : ∀ t : Tree, rowMet bs t.row = t.met bs
  | .and l r => by rw [Tree.row, rowMet_append, row_met bs l]; rfl
  | .all => by simp [Tree.row, rowMet]
  | .leaf _ => by simp [Tree.row, rowMet]
  | .neg _ => by simp [Tree.row, rowMet]
  | .or _ _ => by simp [Tree.row, rowMet]
theorem row_asks (bs : List Bool) : ∀ t : Tree, rowAsks bs t.row = t.asks bs
  | .and l r => by rw [Tree.row, rowAsks_append, row_met bs l, row_asks bs l]; rfl
  | .all => by simp [Tree.row, rowAsks, Tree.met]
  | .leaf _ => by simp [Tree.row, rowAsks]
  | .neg _ => by simp [Tree.row, rowAsks]
  | .or _ _ => by simp [Tree.row, rowAsks]

abbrev tupOf (its : Array Value) (n : Nat) : Obj := { cls := .type "tuple", data := .seq its n }
/-- the ledger bears the tree at v -/
inductive TreeIn (news : List (Addr × Obj)) : Value → Tree → Prop where
  | all {a : Addr} {t : Tok} {n : Nat} : (a, tupOf #[.str (Str.ofString "all") t] n) ∈ news → TreeIn news (.ref a) .all
  | leaf {a : Addr} {t u : Tok} {n : Nat} {k : Nat} {j : Int} : j = (k : Int) → (a, tupOf #[.str (Str.ofString "larger") t, .int j u] n) ∈ news → TreeIn news (.ref a) (.leaf k)
  | neg {a : Addr} {t : Tok} {n : Nat} {v : Value} {x : Tree} : (a, tupOf #[.str (Str.ofString "not") t, v] n) ∈ news → TreeIn news v x → TreeIn news (.ref a) (.neg x)
  | or {a : Addr} {t : Tok} {n : Nat} {v u : Value} {x y : Tree} : (a, tupOf #[.str (Str.ofString "or") t, v, u] n) ∈ news → TreeIn news v x → TreeIn news u y → TreeIn news (.ref a) (.or x y)
  | and {a : Addr} {t : Tok} {n : Nat} {v u : Value} {x y : Tree} : (a, tupOf #[.str (Str.ofString "and") t, v, u] n) ∈ news → TreeIn news v x → TreeIn news u y → TreeIn news (.ref a) (.and x y)
theorem TreeIn.mono {news news' : List (Addr × Obj)} {v : Value} {t : Tree} (h : TreeIn news v t) (hs : ∀ p ∈ news, p ∈ news') : TreeIn news' v t := by
  induction h with
  | all hm => exact .all (hs _ hm)
  | leaf hj hm => exact .leaf hj (hs _ hm)
  | neg hm _ ih => exact .neg (hs _ hm) ih
  | or hm _ _ ih ih' => exact .or (hs _ hm) ih ih'
  | and hm _ _ ih ih' => exact .and (hs _ hm) ih ih'
/-- the room that a tree d deep may take -/
noncomputable def cap : Nat → Nat
  | 0 => 1
  | d + 1 => 2 * cap d
theorem cap_pos : ∀ d, 1 ≤ cap d
  | 0 => Nat.le_refl _
  | d + 1 => by have := cap_pos d; show 1 ≤ 2 * cap d; omega
theorem news_sub {h₀ h : Heap} {L : Addr} {l l' : List (Addr × Obj)} (N : News h₀ L h l) (s : ∀ p ∈ l', p ∈ l) : News h₀ L h l' := fun p hp => N p (s p hp)
theorem sub1 {a b : List (Addr × Obj)} {q : Addr × Obj} (h : ∀ p ∈ a, p ∈ b) : ∀ p ∈ a, p ∈ q :: b := fun p x => .tail _ (h p x)
theorem sub0 {b c : List (Addr × Obj)} {q t : Addr × Obj} (h : ∀ p ∈ t :: b, p ∈ c) : ∀ p ∈ b, p ∈ q :: c := fun p x => .tail _ (h p (.tail _ x))
theorem sub2 {a b c : List (Addr × Obj)} {q t : Addr × Obj} (h : ∀ p ∈ a, p ∈ b) (k : ∀ p ∈ t :: b, p ∈ c) : ∀ p ∈ a, p ∈ q :: c := fun p x => .tail _ (k p (.tail _ (h p x)))
theorem news_swap {h₀ h : Heap} {L : Addr} {p c e q : Addr × Obj} {r : List (Addr × Obj)} (N : News h₀ L h (q :: p :: c :: e :: r)) : News h₀ L h (p :: c :: e :: q :: r) := by
  refine news_sub N fun x hx => ?_
  simp only [List.mem_cons] at hx ⊢
  rcases hx with h | h | h | h | h <;> simp [h]
end

section
/-- what a call of a def of the text does, from any def's frame -/
def Meets (o : OpenLaw) (K : Params → Frag) (f : Addr) (vs : List Value) (dpt unt : Nat) (pre : List (Addr × Obj)) (post : Value → List (Addr × Obj) → Prop) : Prop :=
  ∀ (w : World) (p : Program) (loose : List Str) (mean : ExcName → Option Value) (mg mb : Str → Option Value) (dp un : Nat) (gd : Option (List Code)) (cn : Str) (cs : Scope) (a : Addr) (ccd : Value) (cl : List (Str × Addr)) (outer : List Env) (A₀ : Around) (base h₀ : Heap) (L : Addr) (m : Str → Option Value) (s : Shared) (Q E : Value → Shared → Prop),
    Below A₀ base outer h₀ → Fr h₀ L s.heap m → (K w.params).In h₀ → News h₀ L s.heap pre → Top p loose mean mg mb h₀ → cs.kind = .function → dp + dpt < recursionLimit → un + unt < cLine →
    (∀ r tl h' tk', Fr h₀ L h' m → News h₀ L h' tl → post r tl → Q r { s with heap := h', toks := tk' }) →
    wpAny (model o.prog w) (ktrTop dp un gd cn cs L a ccd cl outer) (call (.ref f) vs) Q E s

theorem use_meets {o : OpenLaw} {K : Params → Frag} {f : Addr} {vs : List Value} {dpt unt : Nat} {pre : List (Addr × Obj)} {post : Value → List (Addr × Obj) → Prop} (M : Meets o K f vs dpt unt pre post)
    {w : World} {p : Program} {loose : List Str} {mean : ExcName → Option Value} {mg mb : Str → Option Value} {dp un : Nat} {gd : Option (List Code)} {cn : Str} {cs : Scope} {a : Addr} {ccd : Value} {cl : List (Str × Addr)} {outer : List Env} {A₀ : Around} {base h₀ : Heap} {L : Addr} {m : Str → Option Value} {s : Shared} {Q E : Value → Shared → Prop}
    (B : Below A₀ base outer h₀) (F : Fr h₀ L s.heap m) (X : (K w.params).In h₀) (N : News h₀ L s.heap pre) (T : Top p loose mean mg mb h₀) (hk : cs.kind = .function) (hd : dp + dpt < recursionLimit) (hu : un + unt < cLine)
    (ret : ∀ r tl h' tk', Fr h₀ L h' m → News h₀ L h' tl → post r tl → Q r { s with heap := h', toks := tk' }) :
    wpAny (model o.prog w) (ktrTop dp un gd cn cs L a ccd cl outer) (call (.ref f) vs) Q E s :=
  M w p loose mean mg mb dp un gd cn cs a ccd cl outer A₀ base h₀ L m s Q E B F X N T hk hd hu ret

/-- the pen: cells, place, rest, sum -/
abbrev penOf (ca : Addr) (i x z : Int) (t1 t2 t3 : Tok) (n : Nat) : Obj := listOf #[.ref ca, .int i t1, .int x t2, .int z t3] n

theorem fm_lo (a : Int) {n : Int} (h : 1 < n) : 0 ≤ Int.fmod a n := by
  rw [Int.fmod_eq_emod_of_nonneg a (by omega)]; exact Int.emod_nonneg a (by omega)
theorem fm_hi (a : Int) {n : Int} (h : 1 < n) : Int.fmod a n < n := by
  rw [Int.fmod_eq_emod_of_nonneg a (by omega)]; exact Int.emod_lt_of_pos a (by omega)
local macro_rules | `(tactic| walk_at "eval BinOp") => `(tactic| (k_here; dsimp only; walk_at "eval BinOp"))
local macro_rules | `(tactic| walk_at "eval IfExp") => `(tactic| (k_here; dsimp only; walk_at "eval IfExp"))
theorem fd_pos {a n : Int} (h : 0 ≤ a) (hm : 1 < n) : 0 ≤ a.fdiv n := by
  rw [Int.fdiv_eq_ediv_of_nonneg a (by omega)]; exact Int.ediv_nonneg h (by omega)
local macro_rules | `(tactic| k_all) => `(tactic| assumption)
local macro_rules | `(tactic| k_ne) => `(tactic| assumption)
local macro_rules | `(tactic| news_mem) => `(tactic| k_mem)
local macro_rules | `(tactic| k_mem) => `(tactic| assumption)
theorem draw_meets (pen ca : Addr) (its : List Value) (ns : List Int) (k n : Nat) (i x z many : Int) (t1 t2 t3 t4 : Tok) (rest : List (Addr × Obj)) (hI : IntsAre its ns) (hL : ns.length ≤ 63) (hi : 0 ≤ i) (hi' : i < 1000) (hx : 0 ≤ x) (hz : 0 ≤ z) (hz' : z < 1009) (hm : 1 < many) (hm' : many < 100)
   (hca : (ca, listOf its.toArray k) ∈ rest) (hr : ∀ p ∈ rest, p.1 ≠ pen) :
    Meets Challenge.rw_nz0262_01 hd.heap_39 35 [.ref pen, .int many t4] 5 50 ((pen, penOf ca i x z t1 t2 t3 n) :: rest)
      (fun r tl => ∃ d t i' x' t1' t2', r = .int d t ∧ 0 ≤ d ∧ d < many ∧ 0 ≤ i' ∧ i' ≤ i + 1 ∧ 0 ≤ x' ∧ tl = ((pen, penOf ca i' x' z t1' t2' t3 n) :: rest)) := by
  k_fill
  w_top off
  intro w p loose mean mg mb dp un gd cn cs a ccd cl outer A₀ base h₀ L m s Q E B F X N T hk hd hu hret
  refine wpAny_call ?_
  k_dflt ktr_enter
  k_steps
  all_goals exact hret _ _ _ _ (by k_asm) (by k_asm) ⟨_, _, _, _, _, _, rfl, fm_lo _ hm, fm_hi _ hm, by omega, by omega, (by first | assumption | omega | exact fd_pos (by first | assumption | omega) hm), rfl⟩
end

section
local macro_rules | `(tactic| walk_at "eval BinOp") => `(tactic| (k_here; dsimp only; walk_at "eval BinOp"))
local macro_rules | `(tactic| walk_at "eval IfExp") => `(tactic| (k_here; dsimp only; walk_at "eval IfExp"))
local macro_rules | `(tactic| k_all) => `(tactic| assumption)
local macro_rules | `(tactic| k_ne) => `(tactic| assumption)
local macro_rules | `(tactic| news_mem) => `(tactic| k_mem)
local macro_rules | `(tactic| k_mem) => `(tactic| assumption)

def TreeOK (d : Nat) : Prop := ∀ (pen nm ca : Addr) (its : List Value) (ns : List Int) (k n : Nat) (i x z D : Int) (t1 t2 t3 t4 : Tok) (bs : List Bool) (k2 : Nat) (rest : List (Addr × Obj)),
  IntsAre its ns → ns.length ≤ 63 → 0 ≤ i → i + 3 * (cap d : Int) ≤ 900 → 0 ≤ x → 0 ≤ z → z < 1009 → D = (d : Int) → bs.length + cap d ≤ 900 → pen ≠ nm → nm ≠ pen → ca ≠ pen → ca ≠ nm → (∀ p ∈ rest, p.1 ≠ pen) → (∀ p ∈ rest, p.1 ≠ nm) →
  Meets Challenge.rw_nz0262_01 hd.heap_39 42 [.ref pen, .int D t4, .ref nm] (d + 10) (8 * d + 100) ((pen, penOf ca i x z t1 t2 t3 n) :: (nm, listOf (bs.map Value.bool).toArray k2) :: (ca, listOf its.toArray k) :: rest)
    (fun r tl => ∃ T i' x' t1' t2' bs' k2' rest', tl = ((pen, penOf ca i' x' z t1' t2' t3 n) :: (nm, listOf ((bs ++ bs').map Value.bool).toArray k2') :: (ca, listOf its.toArray k) :: rest') ∧ 0 ≤ i' ∧ i' + 1 ≤ i + 3 * (cap d : Int) ∧ 0 ≤ x' ∧ bs'.length ≤ cap d ∧
      TreeIn rest' r T ∧ T.Below (bs ++ bs').length ∧ T.depth ≤ d + 1 ∧ (∀ p ∈ rest, p ∈ rest') ∧ (∀ p ∈ rest', p.1 ≠ pen) ∧ (∀ p ∈ rest', p.1 ≠ nm))
theorem TreeOK.out {d : Nat} (h : TreeOK d) (pen nm ca : Addr) (its : List Value) (ns : List Int) (k n : Nat) (i x z D : Int) (t1 t2 t3 t4 : Tok) (bs : List Bool) (k2 : Nat) (rest : List (Addr × Obj)) :
  IntsAre its ns → ns.length ≤ 63 → 0 ≤ i → i + 3 * (cap d : Int) ≤ 900 → 0 ≤ x → 0 ≤ z → z < 1009 → D = (d : Int) → bs.length + cap d ≤ 900 → pen ≠ nm → nm ≠ pen → ca ≠ pen → ca ≠ nm → (∀ p ∈ rest, p.1 ≠ pen) → (∀ p ∈ rest, p.1 ≠ nm) →
  Meets Challenge.rw_nz0262_01 hd.heap_39 42 [.ref pen, .int D t4, .ref nm] (d + 10) (8 * d + 100) ((pen, penOf ca i x z t1 t2 t3 n) :: (nm, listOf (bs.map Value.bool).toArray k2) :: (ca, listOf its.toArray k) :: rest)
    (fun r tl => ∃ T i' x' t1' t2' bs' k2' rest', tl = ((pen, penOf ca i' x' z t1' t2' t3 n) :: (nm, listOf ((bs ++ bs').map Value.bool).toArray k2') :: (ca, listOf its.toArray k) :: rest') ∧ 0 ≤ i' ∧ i' + 1 ≤ i + 3 * (cap d : Int) ∧ 0 ≤ x' ∧ bs'.length ≤ cap d ∧
      TreeIn rest' r T ∧ T.Below (bs ++ bs').length ∧ T.depth ≤ d + 1 ∧ (∀ p ∈ rest, p ∈ rest') ∧ (∀ p ∈ rest', p.1 ≠ pen) ∧ (∀ p ∈ rest', p.1 ≠ nm)) := h pen nm ca its ns k n i x z D t1 t2 t3 t4 bs k2 rest

local macro_rules | `(tactic| walk_at "call builtin:len") => `(tactic| (
  k_here
  k_dflt (
    refine' kun_lenL ?k1 ?k2 ?k3 ?_
    (case k1 => is_list)
    (case k2 => (simp only [List.size_toArray, List.length_append, List.length_map, List.length_cons, List.length_nil]; rfl))
    (case k3 => omega)
    k_whole)))
local macro_rules | `(tactic| walk_at "call ref") => `(tactic| (
  k_here
  k_dflt (
    refine' use_meets (draw_meets _ _ _ _ _ _ _ _ _ _ _ _ _ _ _ ?hI ?hL ?hi ?hi' ?hx ?hz ?hz' ?hm ?hm' ?hca ?hr) ?cB ?cF ?cX ?cN ?cT ?cK ?cD ?cU ?_
    (case cN => k_asm); (case cB => k_asm); (case cF => k_asm); (case cX => k_asm); (case cT => k_asm); (case cK => exact rfl)
    (case hca => k_mem); (case hI => assumption); (case hL => assumption); (case hi => omega); (case hi' => omega); (case hx => assumption); (case hz => assumption); (case hz' => assumption); (case hm => decide); (case hm' => decide); (case hr => k_all)
    (case cD => ktr_room); (case cU => ktr_units); k_whole)
  intro r' tl' h' tk' F' N' P'
  obtain ⟨d', t', i', x', t1', t2', e1', l1', l2', l3', l4', l5', e2'⟩ := P'
  subst e1' e2'
  (try k_sweep)
  (try dsimp only)
  (try k_fold)))
local macro_rules | `(tactic| walk_at "call ref") => `(tactic| (
  k_here
  k_dflt (
    refine' use_meets (TreeOK.out (by assumption) _ _ _ _ _ _ _ _ _ _ _ _ _ _ _ _ _ _ ?hI ?hL ?hi ?hi' ?hx ?hz ?hz' ?hD ?hb ?hpn ?hnp ?hcp ?hcn ?hr1 ?hr2) ?cB ?cF ?cX ?cN ?cT ?cK ?cD ?cU ?_
    (case cN => first | k_asm | exact news_swap (by k_asm))
    (case cB => k_asm); (case cF => k_asm); (case cX => k_asm); (case cT => k_asm); (case cK => exact rfl)
    (case hI => assumption); (case hL => assumption); (case hi => omega); (case hi' => omega); (case hx => assumption); (case hz => assumption); (case hz' => assumption); (case hD => omega); (case hb => ((try simp only [List.length_append]); omega))
    (case hpn => assumption); (case hnp => assumption); (case hcp => assumption); (case hcn => assumption); (case hr1 => k_all); (case hr2 => k_all)
    (case cD => ktr_room); (case cU => ktr_units); k_whole)
  intro r' tl' h' tk' F' N' P'
  obtain ⟨T', i', x', t1', t2', bs', k2', rest', e2', l3', l4', l5', l6', l7', l8', l9', s1', s2', s3'⟩ := P'
  subst e2'
  (try k_sweep)
  (try dsimp only)
  (try k_fold)))

theorem pick2 {prog : Program} {w : World} {A : Around} {E : Value → Shared → Prop} {s : Shared} {value slice : PySem.Expr} {l : Addr} {a b : Value} {k : Int} {u : Tok} {Q : Value → Shared → Prop}
    (hl : IsTup s.heap l #[a, b]) (h0 : 0 ≤ k) (h2 : k < 2) (hA : k = 0 → Q a s) (hB : k = 1 → Q b s)
    (hs : subscripted slice false (.ref l) (.int k u) = operate [.ref l, .int k u] (getItem (.ref l) (.int k u)) := by with_unfolding_all rfl) : wpAny (model prog w) A (subscriptTail value slice (.ref l) (.int k u)) Q E s := by
  by_cases h : k = 0
  · subst h
    exact item_tupleT (l := [a, b]) (j := 0) (x := a) hl (by decide) (by decide) rfl rfl (hA rfl) hs
  · have h' : k = 1 := by omega
    subst h'
    exact item_tupleT (l := [a, b]) (j := 1) (x := b) hl (by decide) (by decide) rfl rfl (hB rfl) hs
local macro_rules | `(tactic| walk_at "subscriptTail") => `(tactic| (
  k_here
  (with_reducible show wpAny _ _ (subscriptTail _ _ (Value.ref _) (Value.int _ _)) _ _ _)
  k_dflt (
    refine' pick2 ?t ?a ?b ?c ?d ?hs
    (case t => exact News.isTup (by k_asm) (by k_mem)); (case a => with_reducible assumption); (case b => with_reducible assumption); (case hs => with_unfolding_all rfl); k_whole)
  all_goals intro hp'))
theorem tree_zero : TreeOK 0 := by
  unfold TreeOK
  intro pen nm ca its ns k n i x z D t1 t2 t3 t4 bs k2 rest hI hL hi hi2 hx hz hz' hD hbs hpn hnp hcp hcn hr1 hr2
  k_fill
  w_top off
  intro w p loose mean mg mb dp un gd cn cs a ccd cl outer A₀ base h₀ L m s Q E B F X N T hk hd hu hret
  simp only [cap] at *
  refine wpAny_call ?_
  k_dflt ktr_enter
  k_steps
  all_goals (first
    | (refine' hret _ _ _ _ ?f ?n ⟨.all, _, _, _, _, [], _, _, ?e, ?a1, ?a2, ?a3, Nat.zero_le _, .all (.head _), trivial, ?dd, fun _ h => .tail _ h, ?k1, ?k2⟩
       (case f => k_asm); (case n => exact news_swap (by k_asm)); (case e => (simp only [List.append_nil]; rfl)); (case a1 => omega); (case a2 => omega); (case a3 => assumption); (case dd => simp only [Tree.depth]; omega); (case k1 => k_all); (case k2 => k_all))
    | (refine' hret _ _ _ _ ?f ?n ⟨.leaf bs.length, _, _, _, _, [_], _, _, ?e, ?a1, ?a2, ?a3, ?a4, .leaf ?j (.head _), ?b, ?dd, fun _ h => .tail _ h, ?k1, ?k2⟩
       (case f => k_asm); (case n => exact news_swap (by k_asm)); (case e => (simp only [List.map_append, List.map_cons, List.map_nil]; rfl)); (case a1 => omega); (case a2 => omega); (case a3 => assumption); (case a4 => simp only [List.length_cons, List.length_nil]; omega); (case j => omega); (case b => (simp only [Tree.Below, List.length_append, List.length_cons, List.length_nil]; omega)); (case dd => simp only [Tree.depth]; omega); (case k1 => k_all); (case k2 => k_all))
    | fail "tree: an end")
theorem tree_succ (d : Nat) (ih : TreeOK d) : TreeOK (d + 1) := by
  unfold TreeOK
  intro pen nm ca its ns k n i x z D t1 t2 t3 t4 bs k2 rest hI hL hi hi2 hx hz hz' hD hbs hpn hnp hcp hcn hr1 hr2
  k_fill
  w_top off
  intro w p loose mean mg mb dp un gd cn cs a ccd cl outer A₀ base h₀ L m s Q E B F X N T hk hd hu hret
  have hcap : cap (d + 1) = 2 * cap d := rfl
  have hcap1 : 1 ≤ cap d := cap_pos d
  rw [hcap] at hi2 hbs hret
  refine wpAny_call ?_
  k_dflt ktr_enter
  k_steps
  all_goals (first
    | (refine' hret _ _ _ _ ?f ?n ⟨.all, _, _, _, _, [], _, _, ?e, ?a1, ?a2, ?a3, Nat.zero_le _, .all (.head _), trivial, ?dd, fun _ h => .tail _ h, ?k1, ?k2⟩
       (case f => k_asm); (case n => exact news_swap (by k_asm)); (case e => (simp only [List.append_nil]; rfl)); (case a1 => omega); (case a2 => omega); (case a3 => assumption); (case dd => simp only [Tree.depth]; omega); (case k1 => k_all); (case k2 => k_all))
    | (refine' hret _ _ _ _ ?f ?n ⟨.leaf bs.length, _, _, _, _, [_], _, _, ?e, ?a1, ?a2, ?a3, ?a4, .leaf ?j (.head _), ?b, ?dd, fun _ h => .tail _ h, ?k1, ?k2⟩
       (case f => k_asm); (case n => exact news_swap (by k_asm)); (case e => (simp only [List.map_append, List.map_cons, List.map_nil]; rfl)); (case a1 => omega); (case a2 => omega); (case a3 => assumption); (case a4 => simp only [List.length_cons, List.length_nil]; omega); (case j => omega); (case b => (simp only [Tree.Below, List.length_append, List.length_cons, List.length_nil]; omega)); (case dd => simp only [Tree.depth]; omega); (case k1 => k_all); (case k2 => k_all))
    | (refine' hret _ _ _ _ ?f ?n ⟨.neg _, _, _, _, _, _, _, _, ?e, ?a1, ?a2, ?a3, ?a4, .neg (.head _) (TreeIn.mono ?g1 fun _ h => .tail _ h), ?b, ?dd, sub1 ?s1, ?k1, ?k2⟩
       (case f => k_asm); (case n => exact news_swap (by k_asm)); (case e => rfl); (case a1 => omega); (case a2 => omega); (case a3 => assumption); (case g1 => assumption); (case a4 => omega); (case b => assumption); (case dd => simp only [Tree.depth]; omega); (case s1 => assumption); (case k1 => k_all); (case k2 => k_all))
    | (refine' hret _ _ _ _ ?f ?n ⟨.or _ _, _, _, _, _, _ ++ _, _, _, ?e, ?a1, ?a2, ?a3, ?a4, .or (.head _) (TreeIn.mono ?g1 (sub0 ?s2)) (TreeIn.mono ?g2 fun _ h => .tail _ h), ⟨Tree.Below.mono ?m1 ?b1, ?b2⟩, ?dd, sub2 ?s1 ?s2', ?k1, ?k2⟩
       (case f => k_asm); (case n => exact news_swap (by k_asm)); (case e => (rw [← List.append_assoc])); (case a1 => omega); (case a2 => omega); (case a3 => assumption); (case g2 => assumption); (case g1 => assumption); (case s2 => assumption); (case s2' => assumption); (case s1 => assumption)
       (case b1 => assumption); (case b2 => rw [← List.append_assoc]; assumption); (case m1 => simp only [List.length_append]; omega); (case a4 => simp only [List.length_append]; omega); (case dd => simp only [Tree.depth]; omega); (case k1 => k_all); (case k2 => k_all))
    | (refine' hret _ _ _ _ ?f ?n ⟨.and _ _, _, _, _, _, _ ++ _, _, _, ?e, ?a1, ?a2, ?a3, ?a4, .and (.head _) (TreeIn.mono ?g1 (sub0 ?s2)) (TreeIn.mono ?g2 fun _ h => .tail _ h), ⟨Tree.Below.mono ?m1 ?b1, ?b2⟩, ?dd, sub2 ?s1 ?s2', ?k1, ?k2⟩
       (case f => k_asm); (case n => exact news_swap (by k_asm)); (case e => (rw [← List.append_assoc])); (case a1 => omega); (case a2 => omega); (case a3 => assumption); (case g2 => assumption); (case g1 => assumption); (case s2 => assumption); (case s2' => assumption); (case s1 => assumption)
       (case b1 => assumption); (case b2 => rw [← List.append_assoc]; assumption); (case m1 => simp only [List.length_append]; omega); (case a4 => simp only [List.length_append]; omega); (case dd => simp only [Tree.depth]; omega); (case k1 => k_all); (case k2 => k_all))
    | fail "tree: an end")
theorem tree_ok : ∀ d, TreeOK d
  | 0 => tree_zero
  | d + 1 => tree_succ d (tree_ok d)
end

section
local macro_rules | `(tactic| walk_at "eval BinOp") => `(tactic| (k_here; dsimp only; walk_at "eval BinOp"))
local macro_rules | `(tactic| walk_at "eval IfExp") => `(tactic| (k_here; dsimp only; walk_at "eval IfExp"))
local macro_rules | `(tactic| k_all) => `(tactic| assumption)
local macro_rules | `(tactic| k_ne) => `(tactic| assumption)
local macro_rules | `(tactic| news_mem) => `(tactic| k_mem)
local macro_rules | `(tactic| k_mem) => `(tactic| assumption)
local macro_rules | `(tactic| k_mem) => `(tactic| exact List.Mem.tail _ (by assumption))

def AskOK (S : Nat) : Prop := ∀ (T : Tree) (v : Value) (as nm : Addr) (ks : List Nat) (vs : List Value) (bs : List Bool) (k k2 : Nat) (rest : List (Addr × Obj)),
  T.size = S → TreeIn rest v T → T.Below bs.length → IntsAre vs (ks.map Int.ofNat) → ks.length + S ≤ 900 → bs.length ≤ 900 → (nm, listOf (bs.map Value.bool).toArray k2) ∈ rest → (∀ p ∈ rest, p.1 ≠ as) →
  Meets Challenge.rw_nz0262_01 hd.heap_39 49 [v, .ref nm, .ref as] (S + 5) (8 * S + 100) ((as, listOf vs.toArray k) :: rest)
    (fun r tl => ∃ vs' k', r = .bool (T.met bs) ∧ tl = ((as, listOf vs'.toArray k') :: rest) ∧ IntsAre vs' ((ks ++ T.asks bs).map Int.ofNat))
theorem AskOK.out {S : Nat} (h : AskOK S) (T : Tree) (v : Value) (as nm : Addr) (ks : List Nat) (vs : List Value) (bs : List Bool) (k k2 : Nat) (rest : List (Addr × Obj)) :
  T.size = S → TreeIn rest v T → T.Below bs.length → IntsAre vs (ks.map Int.ofNat) → ks.length + S ≤ 900 → bs.length ≤ 900 → (nm, listOf (bs.map Value.bool).toArray k2) ∈ rest → (∀ p ∈ rest, p.1 ≠ as) →
  Meets Challenge.rw_nz0262_01 hd.heap_39 49 [v, .ref nm, .ref as] (S + 5) (8 * S + 100) ((as, listOf vs.toArray k) :: rest)
    (fun r tl => ∃ vs' k', r = .bool (T.met bs) ∧ tl = ((as, listOf vs'.toArray k') :: rest) ∧ IntsAre vs' ((ks ++ T.asks bs).map Int.ofNat)) := h T v as nm ks vs bs k k2 rest

theorem AskOK.use {S : Nat} (h : ∀ S' < S, AskOK S') (T : Tree) (v : Value) (as nm : Addr) (ks : List Nat) (vs : List Value) (bs : List Bool) (k k2 : Nat) (rest : List (Addr × Obj)) :
  T.size < S → TreeIn rest v T → T.Below bs.length → IntsAre vs (ks.map Int.ofNat) → ks.length + T.size ≤ 900 → bs.length ≤ 900 → (nm, listOf (bs.map Value.bool).toArray k2) ∈ rest → (∀ p ∈ rest, p.1 ≠ as) →
  Meets Challenge.rw_nz0262_01 hd.heap_39 49 [v, .ref nm, .ref as] (T.size + 5) (8 * T.size + 100) ((as, listOf vs.toArray k) :: rest)
    (fun r tl => ∃ vs' k', r = .bool (T.met bs) ∧ tl = ((as, listOf vs'.toArray k') :: rest) ∧ IntsAre vs' ((ks ++ T.asks bs).map Int.ofNat)) := fun lt => h _ lt T v as nm ks vs bs k k2 rest rfl
theorem bools_map : ∀ bs : List Bool, LSm.BoolsAre (bs.map Value.bool) bs
  | [] => .nil
  | b :: r => .cons b (bools_map r)
theorem asks_len (bs : List Bool) : ∀ T : Tree, (T.asks bs).length + 1 ≤ T.size + 1 ∧ (T.asks bs).length ≤ T.size
  | .all => by simp [Tree.asks, Tree.size]
  | .leaf _ => by simp [Tree.asks, Tree.size]
  | .neg t => by have := asks_len bs t; simp only [Tree.asks, Tree.size]; omega
  | .or l r => by have := asks_len bs l; have := asks_len bs r; simp only [Tree.asks, Tree.size]; split <;> (try simp only [List.length_append]) <;> omega
  | .and l r => by have := asks_len bs l; have := asks_len bs r; simp only [Tree.asks, Tree.size]; split <;> (try simp only [List.length_append]) <;> omega
local macro_rules | `(tactic| walk_at "call ref") => `(tactic| (
  k_here
  k_dflt (
    refine' use_meets (AskOK.use (by assumption) _ _ _ _ _ _ _ _ _ _ ?lt ?hT ?hB ?hI ?hk ?hb ?hm ?hr) ?cB ?cF ?cX ?cN ?cT ?cK ?cD ?cU ?_
    (case cN => k_asm); (case cB => k_asm); (case cF => k_asm); (case cX => k_asm); (case cT => k_asm); (case cK => exact rfl)
    (case hT => assumption); (case hB => assumption); (case hI => assumption); (case hm => assumption); (case hr => assumption); (case lt => omega); (case hk => ((try simp only [List.length_append]); omega)); (case hb => assumption)
    (case cD => ktr_room); (case cU => ktr_units); k_whole)
  intro r' tl' h' tk' F' N' P'
  obtain ⟨vs', k', e1', e2', l1'⟩ := P'
  subst e1' e2'
  (try k_sweep)
  (try dsimp only)
  (try k_fold)))

theorem or_yes {m : Bool} (h : (m == (Str.ofString "or" == Str.ofString "or")) = true) : m = true := by
  rw [show (Str.ofString "or" == Str.ofString "or") = true from by decide +kernel] at h; simpa using h
theorem or_no {m : Bool} (h : (m == (Str.ofString "or" == Str.ofString "or")) = false) : m = false := by
  rw [show (Str.ofString "or" == Str.ofString "or") = true from by decide +kernel] at h; simpa using h
theorem and_yes {m : Bool} (h : (m == (Str.ofString "and" == Str.ofString "or")) = true) : m = false := by
  rw [show (Str.ofString "and" == Str.ofString "or") = false from by decide +kernel] at h; simpa using h
theorem and_no {m : Bool} (h : (m == (Str.ofString "and" == Str.ofString "or")) = false) : m = true := by
  rw [show (Str.ofString "and" == Str.ofString "or") = false from by decide +kernel] at h; simpa using h
theorem ask_step (S : Nat) (ih : ∀ S' < S, AskOK S') : AskOK S := by
  unfold AskOK
  intro T v as nm ks vs bs k k2 rest hS hT hB hI hks hbs hnm hr
  have hBA := bools_map bs
  k_fill
  w_top off
  intro w p loose mean mg mb dp un gd cn cs a ccd cl outer A₀ base h₀ L m s Q E B F X N TT hk hd hu hret
  cases hT
  all_goals simp only [Tree.Below, Tree.size] at hB hS
  case leaf => 
    rename_i hj hmem
    subst hj
    refine wpAny_call ?_
    k_dflt ktr_enter
    k_steps
    exact hret _ _ _ _ (by k_asm) (by k_asm) ⟨_, _, rfl, rfl, by rw [List.map_append]; exact IntsAre.append hI (IntsAre.cons _ _ .nil)⟩
  case all => 
    refine wpAny_call ?_
    k_dflt ktr_enter
    k_steps
    exact hret _ _ _ _ (by k_asm) (by k_asm) ⟨_, _, rfl, rfl, by rw [Tree.asks, List.append_nil]; assumption⟩
  case neg => 
    refine wpAny_call ?_
    k_dflt ktr_enter
    k_steps
    exact hret _ _ _ _ (by k_asm) (by k_asm) ⟨_, _, rfl, rfl, by rw [Tree.asks]; assumption⟩
  case or tk nn v u x y g1 g2 g3 => 
    obtain ⟨hB1, hB2⟩ := hB
    have hl := (asks_len bs x).2
    refine wpAny_call ?_
    k_dflt ktr_enter
    k_steps
    · have hm := or_yes (by assumption)
      exact hret _ _ _ _ (by k_asm) (by k_asm) ⟨_, _, by simp only [Tree.met, hm, Bool.true_or, Bool.false_and], rfl, by simp only [Tree.asks, hm, if_true, Bool.false_eq_true, if_false]; assumption⟩
    · have hm := or_no (by assumption)
      k_steps
      exact hret _ _ _ _ (by k_asm) (by k_asm) ⟨_, _, by simp only [Tree.met, hm, Bool.false_or, Bool.true_and], rfl, by simp only [Tree.asks, hm, if_true, Bool.false_eq_true, if_false, ← List.append_assoc]; assumption⟩
  case and tk nn v u x y g1 g2 g3 => 
    obtain ⟨hB1, hB2⟩ := hB
    have hl := (asks_len bs x).2
    refine wpAny_call ?_
    k_dflt ktr_enter
    k_steps
    · have hm := and_yes (by assumption)
      exact hret _ _ _ _ (by k_asm) (by k_asm) ⟨_, _, by simp only [Tree.met, hm, Bool.true_or, Bool.false_and], rfl, by simp only [Tree.asks, hm, if_true, Bool.false_eq_true, if_false]; assumption⟩
    · have hm := and_no (by assumption)
      k_steps
      exact hret _ _ _ _ (by k_asm) (by k_asm) ⟨_, _, by simp only [Tree.met, hm, Bool.false_or, Bool.true_and], rfl, by simp only [Tree.asks, hm, if_true, Bool.false_eq_true, if_false, ← List.append_assoc]; assumption⟩
theorem ask_ok (S : Nat) : AskOK S := Nat.strongRecOn S fun S ih => ask_step S ih
end

section
local macro_rules | `(tactic| walk_at "eval BinOp") => `(tactic| (k_here; dsimp only; walk_at "eval BinOp"))
local macro_rules | `(tactic| walk_at "eval IfExp") => `(tactic| (k_here; dsimp only; walk_at "eval IfExp"))
local macro_rules | `(tactic| k_all) => `(tactic| assumption)
local macro_rules | `(tactic| k_ne) => `(tactic| assumption)
local macro_rules | `(tactic| news_mem) => `(tactic| k_mem)
local macro_rules | `(tactic| k_mem) => `(tactic| assumption)
local macro_rules | `(tactic| k_mem) => `(tactic| exact List.Mem.tail _ (by assumption))

/-- the ledger bears the trees at the values -/
inductive RowIn (news : List (Addr × Obj)) : List Value → List Tree → Prop where
  | nil : RowIn news [] []
  | cons {v : Value} {T : Tree} {vs : List Value} {ts : List Tree} : TreeIn news v T → RowIn news vs ts → RowIn news (v :: vs) (T :: ts)
theorem RowIn.append {news : List (Addr × Obj)} {vs us : List Value} {ts xs : List Tree} (h : RowIn news vs ts) (k : RowIn news us xs) : RowIn news (vs ++ us) (ts ++ xs) := by
  induction h with
  | nil => exact k
  | cons a _ ih => exact .cons a ih
theorem RowIn.reverse {news : List (Addr × Obj)} {vs : List Value} {ts : List Tree} (h : RowIn news vs ts) : RowIn news vs.reverse ts.reverse := by
  induction h with
  | nil => exact .nil
  | cons a _ ih => rw [List.reverse_cons, List.reverse_cons]; exact ih.append (.cons a .nil)
theorem RowIn.mono {news news' : List (Addr × Obj)} {vs : List Value} {ts : List Tree} (h : RowIn news vs ts) (s : ∀ p ∈ news, p ∈ news') : RowIn news' vs ts := by
  induction h with
  | nil => exact .nil
  | cons a _ ih => exact .cons (a.mono s) ih
theorem RowIn.length {news : List (Addr × Obj)} {vs : List Value} {ts : List Tree} (h : RowIn news vs ts) : vs.length = ts.length := by
  induction h with
  | nil => rfl
  | cons _ _ ih => simp [ih]
theorem row_len : ∀ T : Tree, T.row.length ≤ T.size
  | .and l r => by have := row_len l; simp only [Tree.row, Tree.size, List.length_append, List.length_cons, List.length_nil]; omega
  | .all => by simp [Tree.row, Tree.size]
  | .leaf _ => by simp [Tree.row, Tree.size]
  | .neg _ => by simp [Tree.row, Tree.size]
  | .or _ _ => by simp [Tree.row, Tree.size]

theorem lt_ne {d : Addr} {l : List (Addr × Obj)} (h : ∀ p ∈ l, p.1 < d) : ∀ p ∈ l, p.1 ≠ d := fun p hp => Nat.ne_of_lt (h p hp)
theorem row_fit {T : Tree} {X R : List Tree} {rest : List (Addr × Obj)} {vs : List Value} (h : T.row = X ++ R.reverse) (k : RowIn rest vs R) (hz : T.size ≤ 900) : vs.length ≤ 900 := by
  have h1 := row_len T
  have h2 := k.length
  have h3 := congrArg List.length h
  simp only [List.length_append, List.length_reverse] at h3
  omega
theorem up_mem {a b : List (Addr × Obj)} {q : Addr × Obj} (h : ∀ p ∈ a, p ∈ b) (k : q ∈ a) : q ∈ b := h q k
def RowEnd (h₀ : Heap) (L : Addr) (s : Shared) (sub rest : List (Addr × Obj)) (D : Addr) (xt xf : Str) (T₀ : Tree) (n : Nat) (s₃ : Shared) : Prop :=
  ∃ h' tk m₂ v T vs R k, s₃ = { s with heap := h', toks := tk } ∧ Fr h₀ L h' m₂ ∧ News h₀ L h' ((D, listOf (List.toArray vs) k) :: rest) ∧ T.size < n ∧ m₂ xt = some v ∧ m₂ xf = some (.ref D) ∧ TreeIn sub v T ∧ RowIn sub vs R ∧ T₀.row = T.row ++ R.reverse
def RowPost (h₀ : Heap) (L : Addr) (s : Shared) (sub rest : List (Addr × Obj)) (D : Addr) (xt xf : Str) (T₀ : Tree) (Q : Flow → Shared → Prop) (n : Nat) (f : Flow) (s₃ : Shared) : Prop :=
  match f with
  | .next | .cont => RowEnd h₀ L s sub rest D xt xf T₀ n s₃
  | .brk => Q .next s₃
  | .ret v => Q (.ret v) s₃
theorem row_while {prog : Program} {w : World} {A : Around} {E : Value → Shared → Prop} {Q : Flow → Shared → Prop} {s : Shared} {env : Env} {h₀ : Heap} {L : Addr} {test : PySem.Expr} {body : List Stmt} {pos : Pos} {m₀ : Str → Option Value} {sub rest : List (Addr × Obj)} {D : Addr} {v₀ : Value} {T₀ : Tree} {k₀ : Nat} {xt xf : Str}
    (F : Fr h₀ L s.heap m₀) (N : News h₀ L s.heap ((D, listOf #[] k₀) :: rest)) (ht : m₀ xt = some v₀) (hf : m₀ xf = some (.ref D)) (hT : TreeIn sub v₀ T₀) (hne : xf ≠ xt)
    (turn : ∀ v T vs R k (u : Str → Option Value) h tk, TreeIn sub v T → RowIn sub vs R → T₀.row = T.row ++ R.reverse → Fr h₀ L h (fun x => if x = xt then some v else if x = xf then some (.ref D) else u x) → News h₀ L h ((D, listOf (List.toArray vs) k) :: rest) →
      wpAny (model prog w) A (isTrue test env (eval test env)) (fun b s₂ =>
        if b = true then wpAny (model prog w) A (execs body env) (RowPost h₀ L s sub rest D xt xf T₀ Q T.size) E s₂ else Q .next s₂) E { s with heap := h, toks := tk })
    (hE : PassesOwn (model prog w) A env E := by passes_own) :
    wpAny (model prog w) A (exec (.While test body [] pos) env) Q E s := by
  refine While_inv2 (fun n m nx => ∃ v T vs R k, T.size = n ∧ m xt = some v ∧ m xf = some (.ref D) ∧ nx = ((D, listOf (List.toArray vs) k) :: rest) ∧ TreeIn sub v T ∧ RowIn sub vs R ∧ T₀.row = T.row ++ R.reverse) F N
    ⟨v₀, T₀, [], [], k₀, rfl, ht, hf, rfl, hT, .nil, by simp⟩ ?_ hE
  rintro n m₁ nx h tk F₁ N₁ ⟨v, T, vs, R, k, hn, hv, hfd, rfl, hTr, hR, he⟩
  subst hn
  have e : (fun x => if x = xt then some v else if x = xf then some (.ref D) else m₁ x) = m₁ := by
    funext x
    by_cases h1 : x = xt
    · subst h1; simp [hv]
    · by_cases h2 : x = xf
      · subst h2; simp [hne, hfd]
      · simp [h1, h2]
  refine wpAny_mono (turn v T vs R k m₁ h tk hTr hR he (by rw [e]; exact F₁) N₁) (fun b s₂ p => ?_) fun _ _ x => x
  cases b with
  | false => simpa using p
  | true =>
    simp only [if_true] at p ⊢
    refine wpAny_mono p (fun f s₃ q => ?_) fun _ _ x => x
    have fin : RowEnd h₀ L s sub rest D xt xf T₀ T.size s₃ → WhileStep2 h₀ L s (fun n m nx => ∃ v T vs R k, T.size = n ∧ m xt = some v ∧ m xf = some (.ref D) ∧ nx = ((D, listOf (List.toArray vs) k) :: rest) ∧ TreeIn sub v T ∧ RowIn sub vs R ∧ T₀.row = T.row ++ R.reverse) Q T.size .next s₃ := by
      rintro ⟨h', tk', m₂, v', T', vs', R', k', rfl, F', N', hlt, a, b, c, d, f⟩
      exact ⟨h', tk', m₂, _, T'.size, rfl, F', N', hlt, v', T', vs', R', k', rfl, a, b, rfl, c, d, f⟩
    cases f with
    | ret v => exact q
    | brk => exact q
    | next => exact fin q
    | cont => exact fin q

local macro_rules | `(tactic| walk_at "exec While Compare cons nil") => `(tactic| (
  k_here
  (with_reducible rename Fr _ _ _ _ => lF)
  (with_reducible rename News _ _ _ _ => lN)
  k_dflt (
    refine' row_while (xt := Str.ofString "tree") (xf := Str.ofString "found") lF lN ?ht ?hf ?hT ?hne ?turn ?hE
    (case ht => exact rfl); (case hf => exact rfl); (case hT => assumption); (case hne => decide +kernel); (case hE => passes_own); k_whole)
  clear lF lN
  intro v' T' vs' R' k' u' h' tk' g1' g2' g3' F' N'
  (have q9 := lt_ne (by assumption))
  (have f9 := row_fit g3' g2' (by assumption))
  cases g1'
  all_goals (have m9 := up_mem (by assumption) (by assumption))
  all_goals (try k_fold)))
local macro_rules | `(tactic| walk_at "RowPost") => `(tactic| (dsimp only [RowPost]))
local macro_rules | `(tactic| walk_at "subscriptTail Name Slice ref ref") => `(tactic| (
  k_here
  (with_reducible show wpAny _ _ (subscriptTail _ (PySem.Expr.Slice none none (some _) _) (Value.ref _) (Value.ref _)) _ _ _)
  k_dflt (
    refine' krv_lit ?F ?N ?l ?k ?e ?_ ?s ?t ?z
    (case F => k_asm); (case N => k_asm); (case l => kmk_list); (case k => exact IsPart.int _ _); (case e => exact rfl); (case s => with_unfolding_all rfl); (case t => kmk_pure)
    (case z => (simp only [Array.size_push, List.size_toArray, sizeLine_eq]; omega)))
  intro D' h' F' N' l1))
theorem row_end {rest : List (Addr × Obj)} {vs : List Value} {R : List Tree} {v : Value} {X T : Tree} (g2 : RowIn rest vs R) (ht : TreeIn rest v X) (hx : X.row = [X]) (g3 : T.row = X.row ++ R.reverse) : RowIn rest (vs.toArray.push v).toList.reverse T.row := by
  have h := (g2.append (.cons ht .nil)).reverse
  rw [g3, hx]
  simpa using h
theorem row_more {T x y : Tree} {R : List Tree} (g3 : T.row = (x.and y).row ++ R.reverse) : T.row = x.row ++ (R ++ [y]).reverse := by
  rw [g3, Tree.row, List.reverse_append, List.append_assoc]; rfl
theorem drop2 {q t : Addr × Obj} {l : List (Addr × Obj)} : ∀ p ∈ q :: l, p ∈ q :: t :: l := fun p hp => by
  rcases List.mem_cons.mp hp with rfl | h
  · exact .head _
  · exact .tail _ (.tail _ h)
theorem row_meets (T : Tree) (v : Value) (sub rest : List (Addr × Obj)) (hsub : ∀ p ∈ sub, p ∈ rest) (hT : TreeIn sub v T) (hz : T.size ≤ 900) :
    Meets Challenge.rw_nz0262_01 hd.heap_39 21 [v] 5 50 rest
      (fun r tl => ∃ D vs k, r = .ref D ∧ tl = ((D, listOf (List.toArray vs) k) :: rest) ∧ RowIn sub vs T.row ∧ ∀ p ∈ rest, p.1 < D) := by
  k_fill
  w_top off
  intro w p loose mean mg mb dp un gd cn cs a ccd cl outer A₀ base h₀ L m s Q E B F X N TT hk hd hu hret
  refine wpAny_call ?_
  k_dflt ktr_enter
  k_steps
  all_goals (first
    | (refine' hret _ _ _ _ ?f (news_sub ?n drop2) ⟨_, _, _, rfl, rfl, row_end ?g2 ?ht ?hx ?g3, ?lt⟩
       (case f => k_asm); (case n => k_asm); (case g3 => assumption); (case g2 => assumption); (case hx => rfl)
       (case ht => first | exact .all (by assumption) | exact .leaf (by assumption) (by assumption) | exact .neg (by assumption) (by assumption) | exact .or (by assumption) (by assumption) (by assumption))
       (case lt => exact fun p hp => (by assumption : ∀ q ∈ _ :: rest, q.1 < _) p (.tail _ hp)))
    | (refine' ⟨_, _, _, _, _, _, _, _, rfl, ?f, ?n, ?z, ?a, ?b, ?c, RowIn.append ?g2 (.cons ?ht .nil), row_more ?g3⟩
       (case f => k_asm); (case n => k_asm); (case a => exact rfl); (case b => exact rfl); (case g3 => assumption); (case c => assumption); (case g2 => assumption); (case ht => assumption); (case z => simp only [Tree.size]; omega))
    | fail "row: an end")
end

section
theorem meets_conseq {o : OpenLaw} {K : Params → Frag} {f : Addr} {vs : List Value} {dpt unt : Nat} {pre pre' : List (Addr × Obj)} {post post' : Value → List (Addr × Obj) → Prop} (M : Meets o K f vs dpt unt pre post)
    (hpre : ∀ p ∈ pre, p ∈ pre') (hpost : ∀ h₀ h L r tl, News h₀ L h tl → post r tl → ∃ tl', News h₀ L h tl' ∧ post' r tl') : Meets o K f vs dpt unt pre' post' := by
  intro w p loose mean mg mb dp un gd cn cs a ccd cl outer A₀ base h₀ L m s Q E B F X N T hk hd hu hret
  refine M w p loose mean mg mb dp un gd cn cs a ccd cl outer A₀ base h₀ L m s Q E B F X (news_sub N hpre) T hk hd hu fun r tl h' tk' F' N' P => ?_
  obtain ⟨tl', N2, P2⟩ := hpost _ _ _ _ _ N' P
  exact hret r tl' h' tk' F' N2 P2
theorem TreeIn.monoT {news news' : List (Addr × Obj)} {v : Value} {t : Tree} (h : TreeIn news v t) (hs : ∀ a its n, (a, tupOf its n) ∈ news → (a, tupOf its n) ∈ news') : TreeIn news' v t := by
  induction h with
  | all hm => exact .all (hs _ _ _ hm)
  | leaf hj hm => exact .leaf hj (hs _ _ _ hm)
  | neg hm _ ih => exact .neg (hs _ _ _ hm) ih
  | or hm _ _ ih ih' => exact .or (hs _ _ _ hm) ih ih'
  | and hm _ _ ih ih' => exact .and (hs _ _ _ hm) ih ih'
theorem news_ne {h₀ h : Heap} {L a b : Addr} {o o' : Obj} {l : List (Addr × Obj)} (N : News h₀ L h l) (ha : (a, o) ∈ l) (hb : (b, o') ∈ l) (hc : o.cls ≠ o'.cls) : a ≠ b := fun e => by
  subst e
  have h1 := (N _ ha).1
  have h2 := (N _ hb).1
  rw [h1] at h2
  exact hc (congrArg Obj.cls (Option.some.inj h2))
/-- what stands off the three that turn -/
def off (a b c : Addr) (l : List (Addr × Obj)) : List (Addr × Obj) := l.filter fun p => decide (p.1 ≠ a ∧ p.1 ≠ b ∧ p.1 ≠ c)
theorem off_mem {a b c : Addr} {l : List (Addr × Obj)} {p : Addr × Obj} : p ∈ off a b c l ↔ p ∈ l ∧ p.1 ≠ a ∧ p.1 ≠ b ∧ p.1 ≠ c := by
  simp [off, List.mem_filter]

theorem law_tree (as hd' nm pen ca c1 c2 tb : Addr) (e0 e1 e3 : Addr × Obj) (o1 o2 : Obj) (its : List Value) (ns : List Int) (k : Nat) (z : Int) (t1 t2 t3 t4 : Tok)
    (hI : IntsAre its ns) (hL : ns.length ≤ 63) (hz : 0 ≤ z) (hz' : z < 1009) (h1 : as ≠ pen) (h2 : hd' ≠ pen) (h3 : nm ≠ pen) (h4 : ca ≠ pen) (h5 : c1 ≠ pen) (h6 : c2 ≠ pen) (h7 : tb ≠ pen)
    (g1 : as ≠ nm) (g2 : hd' ≠ nm) (g4 : ca ≠ nm) (g5 : c1 ≠ nm) (g6 : c2 ≠ nm) (g7 : tb ≠ nm) :
    Meets Challenge.rw_nz0262_01 hd.heap_39 42 [.ref pen, .int 4 t4, .ref nm] 14 132
      [e0, (as, listOf #[] 0), (hd', listOf #[] 0), (nm, listOf #[] 0), (pen, penOf ca 0 0 z t1 t2 t3 0), e1, (ca, listOf its.toArray k), e3, (c1, o1), (c2, o2), (tb, tabObj #[])]
      (fun r tl => ∃ (T : Tree) (bs : List Bool) (k2 : Nat) (R : List (Addr × Obj)), tl = ((as, listOf #[] 0) :: (hd', listOf #[] 0) :: (tb, tabObj #[]) :: (c1, o1) :: (c2, o2) :: (nm, listOf (bs.map Value.bool).toArray k2) :: R) ∧
        TreeIn R r T ∧ T.Below bs.length ∧ T.depth ≤ 5 ∧ bs.length ≤ 16 ∧ ∀ p ∈ R, p.1 ≠ as ∧ p.1 ≠ hd' ∧ p.1 ≠ tb) := by
  have M := tree_ok 4 pen nm ca its ns k 0 0 0 z 4 t1 t2 t3 t4 [] 0 [(as, listOf #[] 0), (hd', listOf #[] 0), (tb, tabObj #[]), (c1, o1), (c2, o2)] hI hL (by decide) (by decide) (by decide) hz hz' rfl (by decide)
    (Ne.symm h3) h3 h4 g4 (by simp only [List.mem_cons, List.not_mem_nil, or_false]; rintro p (rfl | rfl | rfl | rfl | rfl) <;> assumption) (by simp only [List.mem_cons, List.not_mem_nil, or_false]; rintro p (rfl | rfl | rfl | rfl | rfl) <;> assumption)
  refine meets_conseq M ?_ ?_
  · intro p hp
    simp only [List.mem_cons, List.not_mem_nil, or_false, List.map_nil] at hp ⊢
    rcases hp with h | h | h | h | h | h | h | h <;> simp [h]
  · rintro h₀ h L r tl N ⟨T, i', x', t1', t2', bs', k2', rest', e, -, -, -, hb, hT, hB, hdp, s1, -, -⟩
    subst e
    have m1 := s1 (as, listOf #[] 0) (by simp)
    have m2 := s1 (hd', listOf #[] 0) (by simp)
    have m3 := s1 (tb, tabObj #[]) (by simp)
    have m4 := s1 (c1, o1) (by simp)
    have m5 := s1 (c2, o2) (by simp)
    have up : ∀ p ∈ rest', p ∈ (pen, penOf ca i' x' z t1' t2' t3 0) :: (nm, listOf (([] ++ bs').map Value.bool).toArray k2') :: (ca, listOf its.toArray k) :: rest' := fun p hp => .tail _ (.tail _ (.tail _ hp))
    refine ⟨(as, listOf #[] 0) :: (hd', listOf #[] 0) :: (tb, tabObj #[]) :: (c1, o1) :: (c2, o2) :: (nm, listOf (bs'.map Value.bool).toArray k2') :: off as hd' tb rest', news_sub N ?_, T, bs', k2', _, rfl, hT.monoT ?_, by simpa using hB, hdp, hb, fun p hp => (off_mem.mp hp).2⟩
    · intro p hp
      simp only [List.mem_cons] at hp
      rcases hp with h | h | h | h | h | h | h
      · exact up _ (h ▸ m1)
      · exact up _ (h ▸ m2)
      · exact up _ (h ▸ m3)
      · exact up _ (h ▸ m4)
      · exact up _ (h ▸ m5)
      · rw [h]; exact .tail _ (.head _)
      · exact up _ (off_mem.mp h).1
    · intro a its n hm
      refine off_mem.mpr ⟨hm, ?_, ?_, ?_⟩
      · exact news_ne N (up _ hm) (up _ m1) (fun e => absurd (Value.type.inj e) (by decide))
      · exact news_ne N (up _ hm) (up _ m2) (fun e => absurd (Value.type.inj e) (by decide))
      · exact news_ne N (up _ hm) (up _ m3) (fun e => by cases e)
end

section
local macro_rules | `(tactic| walk_at "eval BinOp") => `(tactic| (k_here; dsimp only; walk_at "eval BinOp"))
local macro_rules | `(tactic| walk_at "eval IfExp") => `(tactic| (k_here; dsimp only; walk_at "eval IfExp"))
local macro_rules | `(tactic| k_all) => `(tactic| assumption)
local macro_rules | `(tactic| k_ne) => `(tactic| assumption)
local macro_rules | `(tactic| news_mem) => `(tactic| k_mem)
local macro_rules | `(tactic| k_mem) => `(tactic| assumption)
local macro_rules | `(tactic| k_mem) => `(tactic| exact List.Mem.tail _ (by assumption))

/-- the ledger bears the asked leaves at the values -/
inductive LeavesIn (news : List (Addr × Obj)) : List Value → List Nat → Prop where
  | nil : LeavesIn news [] []
  | cons {a : Addr} {t u : Tok} {n k : Nat} {vs : List Value} {ks : List Nat} : (a, tupOf #[.str (Str.ofString "larger") t, .int (k : Int) u] n) ∈ news → LeavesIn news vs ks → LeavesIn news (.ref a :: vs) (k :: ks)
theorem LeavesIn.append {news : List (Addr × Obj)} {vs us : List Value} {ks js : List Nat} (h : LeavesIn news vs ks) (k : LeavesIn news us js) : LeavesIn news (vs ++ us) (ks ++ js) := by
  induction h with
  | nil => exact k
  | cons a _ ih => exact .cons a ih
theorem LeavesIn.length {news : List (Addr × Obj)} {vs : List Value} {ks : List Nat} (h : LeavesIn news vs ks) : vs.length = ks.length := by
  induction h with
  | nil => rfl
  | cons _ _ ih => simp [ih]
theorem askLen (bs : List Bool) : ∀ T : Tree, (T.asks bs).length ≤ T.size
  | .all => by simp [Tree.asks, Tree.size]
  | .leaf _ => by simp [Tree.asks, Tree.size]
  | .neg t => by have := askLen bs t; simp only [Tree.asks, Tree.size]; omega
  | .or l r => by have := askLen bs l; have := askLen bs r; simp only [Tree.asks, Tree.size]; split <;> (try simp only [List.length_append]) <;> omega
  | .and l r => by have := askLen bs l; have := askLen bs r; simp only [Tree.asks, Tree.size]; split <;> (try simp only [List.length_append]) <;> omega
theorem leaves_fit {news : List (Addr × Obj)} {vs : List Value} {bs : List Bool} {T : Tree} (h : LeavesIn news vs (T.asks bs)) : vs.length ≤ T.size := h.length ▸ askLen bs T
noncomputable def rowSize : List Tree → Nat
  | [] => 0
  | t :: r => t.size + rowSize r
theorem rowSize_append (t : Tree) : ∀ l : List Tree, rowSize (l ++ [t]) = rowSize l + t.size
  | [] => by simp [rowSize]
  | u :: r => by simp only [List.cons_append, rowSize, rowSize_append t r]; omega
theorem row_size : ∀ T : Tree, rowSize T.row ≤ T.size
  | .and l r => by have := row_size l; rw [Tree.row, rowSize_append]; simp only [Tree.size]; omega
  | .all => by simp [Tree.row, rowSize]
  | .leaf _ => by simp [Tree.row, rowSize]
  | .neg _ => by simp [Tree.row, rowSize]
  | .or _ _ => by simp [Tree.row, rowSize]
noncomputable def rowBelow (n : Nat) : List Tree → Prop
  | [] => True
  | t :: r => t.Below n ∧ rowBelow n r
theorem rowBelow_append {n : Nat} {t : Tree} (h : t.Below n) : ∀ {l : List Tree}, rowBelow n l → rowBelow n (l ++ [t])
  | [], _ => ⟨h, trivial⟩
  | _ :: _, k => ⟨k.1, rowBelow_append h k.2⟩
theorem row_below {n : Nat} : ∀ {T : Tree}, T.Below n → rowBelow n T.row
  | .and l r, h => rowBelow_append h.2 (row_below (T := l) h.1)
  | .all, h => ⟨h, trivial⟩
  | .leaf _, h => ⟨h, trivial⟩
  | .neg _, h => ⟨h, trivial⟩
  | .or _ _, h => ⟨h, trivial⟩

/-- what a call of the leaves' teller does -/
def HoldsOK (hf hdA : Addr) (bs : List Bool) (sub : List (Addr × Obj)) : Prop := ∀ (rest : List (Addr × Obj)) (a : Addr) (t u : Tok) (n k n2 : Nat) (hs : List Value),
  (∀ p ∈ sub, p ∈ rest) → (∀ p ∈ rest, p.1 ≠ hdA) → (a, tupOf #[.str (Str.ofString "larger") t, .int (n : Int) u] n2) ∈ sub → n < bs.length → hs.length ≤ 900 →
  Meets Challenge.rw_nz0262_01 hd.heap_39 hf [.ref a] 5 50 ((hdA, listOf hs.toArray k) :: rest)
    (fun r tl => ∃ k', r = .bool (bs.getD n false) ∧ tl = ((hdA, listOf (hs ++ [Value.ref a]).toArray k') :: rest))

def DecOK (S : Nat) : Prop := ∀ (T : Tree) (v : Value) (hf hdA : Addr) (hs : List Value) (bs : List Bool) (k : Nat) (sub rest : List (Addr × Obj)) (oc : Value) (od : Option Addr) (fd : FuncData) (sl : Array (Option Value)),
  T.size = S → (∀ p ∈ sub, p ∈ rest) → TreeIn sub v T → T.Below bs.length → hs.length + S ≤ 900 → (hf, (⟨oc, od, .func fd, sl⟩ : Obj)) ∈ sub → HoldsOK hf hdA bs sub → (∀ p ∈ rest, p.1 ≠ hdA) →
  Meets Challenge.rw_nz0262_01 hd.heap_39 28 [v, .ref hf] (S + 10) (8 * S + 100) ((hdA, listOf hs.toArray k) :: rest)
    (fun r tl => ∃ hs' k', r = .bool (T.met bs) ∧ tl = ((hdA, listOf (hs ++ hs').toArray k') :: rest) ∧ LeavesIn sub hs' (T.asks bs))
theorem DecOK.use {S : Nat} (h : ∀ S' < S, DecOK S') (T : Tree) (v : Value) (hf hdA : Addr) (hs : List Value) (bs : List Bool) (k : Nat) (sub rest : List (Addr × Obj)) (oc : Value) (od : Option Addr) (fd : FuncData) (sl : Array (Option Value)) :
  T.size < S → (∀ p ∈ sub, p ∈ rest) → TreeIn sub v T → T.Below bs.length → hs.length + T.size ≤ 900 → (hf, (⟨oc, od, .func fd, sl⟩ : Obj)) ∈ sub → HoldsOK hf hdA bs sub → (∀ p ∈ rest, p.1 ≠ hdA) →
  Meets Challenge.rw_nz0262_01 hd.heap_39 28 [v, .ref hf] (T.size + 10) (8 * T.size + 100) ((hdA, listOf hs.toArray k) :: rest)
    (fun r tl => ∃ hs' k', r = .bool (T.met bs) ∧ tl = ((hdA, listOf (hs ++ hs').toArray k') :: rest) ∧ LeavesIn sub hs' (T.asks bs)) := fun lt => h _ lt T v hf hdA hs bs k sub rest oc od fd sl rfl

theorem news_rot {h₀ h : Heap} {L : Addr} {p c q : Addr × Obj} {r : List (Addr × Obj)} (N : News h₀ L h (p :: c :: q :: r)) : News h₀ L h (q :: p :: c :: r) := by
  refine news_sub N fun x hx => ?_
  simp only [List.mem_cons] at hx ⊢
  rcases hx with h | h | h | h <;> simp [h]
theorem up_tail {a b : List (Addr × Obj)} {q : Addr × Obj} (h : ∀ p ∈ a, p ∈ b) : ∀ p ∈ a, p ∈ q :: b := fun p hp => .tail _ (h p hp)

/-- a loop over a list of unknown length, by what holds of what is left -/
theorem rest_ind {prog : Program} {w : World} {A : Around} {E : Value → Shared → Prop} {h₀ : Heap} {env : Env} {x : Str} {body : List Stmt} {Q : Flow → Shared → Prop} {s : Shared} {I : Addr} {lp : Addr × Obj}
    (P : List Value → (Str → Option Value) → List (Addr × Obj) → Prop)
    (hnil : ∀ m news h tk, P [] m news → Fr h₀ env.locals h m → News h₀ env.locals h news → Q .next { s with heap := h, toks := tk })
    (hcons : ∀ v r m news, P (v :: r) m news → ∀ (it : Obj) h tk, it.cls = .type "list_iterator" → Fr h₀ env.locals h (fun y => if y = x then some v else m y) → News h₀ env.locals h ((I, it) :: news) →
      wpAny (model prog w) A (execs body env) (UnrPost h₀ env.locals { s with heap := h, toks := tk } I it (fun m' n' => lp ∈ n' ∧ P r m' n') Q) E { s with heap := h, toks := tk }) :
    ∀ vs m news, P vs m news → ListRest prog w A E h₀ env x body Q s I lp vs m news
  | [], m, news, hP => fun h tk F N => hnil m news h tk hP F N
  | v :: r, m, news, hP => fun it h tk hit F N => by
    refine wpAny_mono (hcons v r m news hP it h tk hit F N) (fun f s₂ p => ?_) fun _ _ e => e
    have fin : UnrEnd h₀ env.locals { s with heap := h, toks := tk } I it (fun m' n' => lp ∈ n' ∧ P r m' n') s₂ →
        UnrEnd h₀ env.locals { s with heap := h, toks := tk } I it (fun m' n' => lp ∈ n' ∧ ListRest prog w A E h₀ env x body Q s I lp r m' n') s₂ := by
      rintro ⟨h', tk', m', news', e, F', N', ho, hl, hP'⟩
      exact ⟨h', tk', m', news', e, F', N', ho, hl, rest_ind P hnil hcons r m' news' hP'⟩
    cases f with
    | ret v => exact p
    | brk => exact p
    | next => exact fin p
    | cont => exact fin p

theorem off_heard {I D hdA : Addr} {o1 o2 o3 : Obj} {rest : List (Addr × Obj)} (hI : ∀ p ∈ (D, o1) :: (hdA, o2) :: rest, p.1 < I) (hD : ∀ p ∈ (hdA, o3) :: rest, p.1 < D) (hr : ∀ p ∈ rest, p.1 ≠ hdA) : ∀ it : Obj, ∀ p ∈ (I, it) :: (D, o1) :: rest, p.1 ≠ hdA := by
  intro it p hp
  simp only [List.mem_cons] at hp
  rcases hp with h | h | h
  · rw [h]; exact Nat.ne_of_gt (hI (hdA, o2) (.tail _ (.head _)))
  · rw [h]; exact Nat.ne_of_gt (hD (hdA, o3) (.head _))
  · exact hr p h
theorem drop3 {q t u : Addr × Obj} {l : List (Addr × Obj)} : ∀ p ∈ q :: l, p ∈ q :: t :: u :: l := fun p hp => by
  rcases List.mem_cons.mp hp with rfl | h
  · exact .head _
  · exact .tail _ (.tail _ (.tail _ h))
theorem row_size_and (l r : Tree) : rowSize (l.and r).row < (l.and r).size := by
  have := row_size l
  rw [Tree.row, rowSize_append]; simp only [Tree.size]; omega
theorem dec_rest {prog : Program} {w : World} {A : Around} {E : Value → Shared → Prop} {h₀ : Heap} {env : Env} {x xh : Str} {body : List Stmt} {Q : Flow → Shared → Prop} {s : Shared} {I : Addr} {D : Addr} {vs0 : List Value} {k0 k : Nat} {m₀ : Str → Option Value} {T : Tree} {bs : List Bool} {hs : List Value} {sub rest : List (Addr × Obj)} {hdA hf : Addr}
    (hI : ∀ p ∈ (D, listOf (List.toArray vs0) k0) :: (hdA, listOf (List.toArray hs) k) :: rest, p.1 < I)
    (hR : RowIn sub vs0 T.row) (hB : T.Below bs.length) (hne : xh ≠ x) (hm : m₀ xh = some (.ref hf))
    (fin : ∀ h tk m' hs' k', Fr h₀ env.locals h m' → News h₀ env.locals h ((hdA, listOf (List.toArray (hs ++ hs')) k') :: rest) → LeavesIn sub hs' (T.asks bs) → T.met bs = true → Q .next { s with heap := h, toks := tk })
    (turn : ∀ v t hs1 k1 (u : Str → Option Value) it h tk (Post : Flow → Shared → Prop), TreeIn sub v t → t.Below bs.length → hs1.length + t.size ≤ rowSize T.row →
      Fr h₀ env.locals h (fun y => if y = x then some v else if y = xh then some (.ref hf) else u y) → News h₀ env.locals h ((hdA, listOf (List.toArray (hs ++ hs1)) k1) :: (I, it) :: (D, listOf (List.toArray vs0) k0) :: rest) →
      (t.met bs = false → T.met bs = false ∧ ∀ hs2, LeavesIn sub hs2 (t.asks bs) → LeavesIn sub (hs1 ++ hs2) (T.asks bs)) →
      (∀ hs2 k2 h' tk' m', t.met bs = true → LeavesIn sub hs2 (t.asks bs) → m' xh = some (.ref hf) → Fr h₀ env.locals h' m' → News h₀ env.locals h' ((hdA, listOf (List.toArray ((hs ++ hs1) ++ hs2)) k2) :: (I, it) :: (D, listOf (List.toArray vs0) k0) :: rest) → Post .next { s with heap := h', toks := tk' }) →
      (∀ v s₂, Q (.ret v) s₂ → Post (.ret v) s₂) →
      wpAny (model prog w) A (execs body env) Post E { s with heap := h, toks := tk }) :
    ListRest prog w A E h₀ env x body Q s I (D, listOf (List.toArray vs0) k0) vs0 m₀ ((D, listOf (List.toArray vs0) k0) :: (hdA, listOf (List.toArray hs) k) :: rest) := by
  refine rest_ind (fun vs1 m1 n1 => ∃ ts hs1 k1 done, n1 = (D, listOf (List.toArray vs0) k0) :: (hdA, listOf (List.toArray (hs ++ hs1)) k1) :: rest ∧ RowIn sub vs1 ts ∧ rowBelow bs.length ts ∧ m1 xh = some (.ref hf) ∧ LeavesIn sub hs1 done ∧
    T.met bs = rowMet bs ts ∧ T.asks bs = done ++ rowAsks bs ts ∧ hs1.length + rowSize ts ≤ rowSize T.row) ?_ ?_ _ _ _ ⟨T.row, [], k, [], by rw [List.append_nil], hR, row_below hB, hm, .nil, (row_met bs T).symm, (row_asks bs T).symm, by simp⟩
  · rintro m news h tk ⟨ts, hs1, k1, done, rfl, hRn, -, -, hl, hmet, hask, -⟩ F N
    cases hRn
    exact fin h tk m hs1 k1 F (fun p hp => N p (.tail _ hp)) (by rw [hask]; simpa [rowAsks] using hl) (by rw [hmet]; rfl)
  · rintro v r m news ⟨ts, hs1, k1, done, rfl, hRn, hbl, hmh, hl, hmet, hask, hsz⟩ it h tk hit F N
    cases hRn with
    | cons hv hr =>
    rename_i t ts
    have e : (fun y => if y = x then some v else if y = xh then some (.ref hf) else m y) = fun y => if y = x then some v else m y := by
      funext y
      by_cases h1 : y = x
      · simp [h1]
      · by_cases h2 : y = xh
        · subst h2; simp [hne, hmh]
        · simp [h1, h2]
    simp only [rowSize] at hsz
    refine turn v t hs1 k1 m it h tk _ hv hbl.1 (by omega) (by rw [e]; exact F) ?_ ?_ ?_ ?_
    · refine news_sub N fun p hp => ?_
      simp only [List.mem_cons] at hp ⊢
      rcases hp with h | h | h | h <;> simp [h]
    · intro hf'
      refine ⟨by rw [hmet]; simp [rowMet, hf'], fun hs2 h2 => ?_⟩
      rw [hask]
      have e2 : rowAsks bs (t :: ts) = t.asks bs := by simp [rowAsks, hf']
      rw [e2]
      exact hl.append h2
    · intro hs2 k2 h' tk' m' ht h2 hm' F' N'
      have hl2 := leaves_fit h2
      refine UnrEnd.intro F' N' ((D, listOf (List.toArray vs0) k0) :: (hdA, listOf (List.toArray (hs ++ (hs1 ++ hs2))) k2) :: rest) ?_ ?_ ⟨.head _, ts, hs1 ++ hs2, k2, done ++ t.asks bs, rfl, hr, hbl.2, hm', hl.append h2, ?_, ?_, ?_⟩
      · intro p hp
        rw [← List.append_assoc] at hp
        simp only [List.mem_cons] at hp ⊢
        rcases hp with h | h | h | h <;> simp [h]
      · intro p hp
        simp only [List.mem_cons] at hp
        rcases hp with h | h | h
        · rw [h]; exact Nat.ne_of_lt (hI _ (.head _))
        · rw [h]; exact Nat.ne_of_lt (hI (hdA, listOf (List.toArray hs) k) (.tail _ (.head _)))
        · exact Nat.ne_of_lt (hI p (.tail _ (.tail _ h)))
      · rw [hmet]; simp [rowMet, ht]
      · rw [hask]; simp [rowAsks, ht]
      · simp only [List.length_append]; omega
    · exact fun v s₂ q => q

local macro_rules | `(tactic| walk_at "call ref") => `(tactic| (
  k_here
  k_dflt (
    refine' use_meets ((by assumption : HoldsOK _ _ _ _) _ _ _ _ _ _ _ _ ?hsub ?hr ?hm ?hn ?hz) ?cB ?cF ?cX ?cN ?cT ?cK ?cD ?cU ?_
    (case cN => k_asm); (case cB => k_asm); (case cF => k_asm); (case cX => k_asm); (case cT => k_asm); (case cK => exact rfl)
    (case hsub => assumption); (case hr => assumption); (case hm => assumption); (case hn => assumption); (case hz => omega)
    (case cD => ktr_room); (case cU => ktr_units); k_whole)
  intro r' tl' h' tk' F' N' P'
  obtain ⟨k', e1', e2'⟩ := P'
  subst e1' e2'
  (try k_sweep)
  (try dsimp only)
  (try k_fold)))
local macro_rules | `(tactic| walk_at "call ref") => `(tactic| (
  k_here
  k_dflt (
    refine' use_meets (row_meets _ _ _ _ ?hsub ?hT ?hz) ?cB ?cF ?cX ?cN ?cT ?cK ?cD ?cU ?_
    (case cN => k_asm); (case cB => k_asm); (case cF => k_asm); (case cX => k_asm); (case cT => k_asm); (case cK => exact rfl)
    (case hT => assumption); (case hsub => exact up_tail (by assumption)); (case hz => ((try simp only [Tree.size]); omega))
    (case cD => ktr_room); (case cU => ktr_units); k_whole)
  intro r' tl' h' tk' F' N' P'
  obtain ⟨D', vs', k', e1', e2', r1', l1'⟩ := P'
  subst e1' e2'
  (try k_sweep)
  (try dsimp only)
  (try k_fold)))
local macro_rules | `(tactic| walk_at "call ref") => `(tactic| (
  k_here
  k_dflt (
    refine' use_meets (DecOK.use (by assumption) _ _ _ _ _ _ _ _ _ _ _ _ _ ?lt ?hsub ?hT ?hB ?hz ?hf ?hH ?hr) ?cB ?cF ?cX ?cN ?cT ?cK ?cD ?cU ?_
    (case cN => first | k_asm | exact news_rot (by k_asm)); (case cB => k_asm); (case cF => k_asm); (case cX => k_asm); (case cT => k_asm); (case cK => exact rfl)
    (case hT => assumption); (case hsub => first | assumption | exact up_tail (up_tail (by assumption))); (case hB => assumption); (case hf => assumption); (case hH => assumption); (case hr => first | assumption | exact (by assumption : ∀ it : Obj, ∀ p ∈ (_, it) :: _, _) _); (case lt => omega); (case hz => ((try simp only [List.length_append]); omega))
    (case cD => ktr_room); (case cU => ktr_units); k_whole)
  intro r' tl' h' tk' F' N' P'
  obtain ⟨hs', k', e1', e2', l1'⟩ := P'
  subst e1' e2'
  (have f9 := leaves_fit l1')
  (try k_sweep)
  (try dsimp only)
  (try k_fold)))
local macro_rules | `(tactic| walk_at "callWith ref") => `(tactic| (
  k_here
  k_dflt (
    refine' callWith_F ?k1 ?_
    (case k1 => exact FnAt.of (by k_asm) (List.Mem.tail _ (by assumption)))
    k_whole)))
local macro_rules | `(tactic| walk_at "FnAt") => `(tactic| (k_dflt (exact FnAt.of (by k_asm) (List.Mem.tail _ (by assumption)))))

local macro_rules | `(tactic| walk_at "pyIter ref") => `(tactic| (
  k_here
  (with_reducible show wpAny _ _ (pyIter (Value.ref _)) (fun it s₂ => LoopAtV _ _ _ _ _ _ _ _ _ it s₂) _ _)
  (with_reducible rename Fr _ _ _ _ => lF)
  (with_reducible rename News _ _ _ _ => lN)
  k_dflt (refine' iter_listUnr (by rfl) lF lN (List.Mem.head _) rfl rfl ?_)))

theorem dec_step (S : Nat) (ih : ∀ S' < S, DecOK S') : DecOK S := by
  unfold DecOK
  intro T v hf hdA hs bs k sub rest oc od fd sl hS hsub hT hB hz hfm hH hr
  have hfr := hsub _ hfm
  k_fill
  w_top off
  intro w p loose mean mg mb dp un gd cn cs a ccd cl outer A₀ base h₀ L m s Q E B F X N TT hk hd hu hret
  have hT0 := hT
  cases hT
  all_goals simp only [Tree.Below, Tree.size] at hB hS
  case all hmem =>
    have hmr := hsub _ hmem
    refine wpAny_call ?_
    k_dflt ktr_enter
    k_steps
    exact hret _ _ _ _ (by k_asm) (by k_asm) ⟨[], _, rfl, by rw [List.append_nil], .nil⟩
  case leaf hj hmem =>
    subst hj
    have hmr := hsub _ hmem
    refine wpAny_call ?_
    k_dflt ktr_enter
    k_steps
    exact hret _ _ _ _ (by k_asm) (by k_asm) ⟨[_], _, rfl, rfl, .cons hmem .nil⟩
  case neg hmem _ =>
    have hmr := hsub _ hmem
    refine wpAny_call ?_
    k_dflt ktr_enter
    k_steps
    exact hret _ _ _ _ (by k_asm) (by k_asm) ⟨_, _, rfl, rfl, by assumption⟩
  case or hmem _ _ =>
    obtain ⟨hB1, hB2⟩ := hB
    have hmr := hsub _ hmem
    refine wpAny_call ?_
    k_dflt ktr_enter
    k_steps
    · exact hret _ _ _ _ (by k_asm) (by k_asm) ⟨_, _, by simp only [Tree.met, *, Bool.true_or], rfl, by simp only [Tree.asks, *, if_true]⟩
    · exact hret _ _ _ _ (by k_asm) (by k_asm) ⟨_, _, by simp only [Tree.met, *, Bool.false_or], by rw [List.append_assoc], by simp only [Tree.asks, *, Bool.false_eq_true, if_false]; exact LeavesIn.append (by assumption) (by assumption)⟩
  case and tk nn va vb x y hmem gx gy =>
    have hBT : Tree.Below bs.length (x.and y) := hB
    have q3 := row_size_and x y
    have hST : (x.and y).size = S := hS
    obtain ⟨hB1, hB2⟩ := hB
    have hmr := hsub _ hmem
    refine wpAny_call ?_
    k_dflt ktr_enter
    k_steps
    have q0 := off_heard (by assumption) (by assumption) hr
    refine dec_rest (xh := Str.ofString "holds") (hf := hf) (bs := bs) (by assumption) (by assumption) hBT (by decide +kernel) rfl ?fin ?turn
    case fin =>
      intro h9 tk9 m9 hs9 k9 F9 N9 g1 g2
      dsimp only
      k_steps
      exact hret _ _ _ _ (by k_asm) (by k_asm) ⟨_, _, by rw [g2], rfl, g1⟩
    case turn =>
      intro v9 t9 hs9 k9 u9 it9 h9 tk9 Post9 g1 g2 g3 F9 N9 g4 g5 g6
      k_steps
      · exact g5 _ _ _ _ _ (by assumption) (by assumption) rfl (by k_asm) (by k_asm)
      · dsimp only
        refine g6 _ _ ?_
        dsimp only
        k_steps
        have q5 := g4 (by assumption)
        refine' hret _ _ _ _ ?f (news_sub ?n drop3) ⟨hs9 ++ _, _, ?e, ?t, q5.2 _ ?g⟩
        case f => k_asm
        case n => k_asm
        case e => rw [q5.1]
        case t => rw [List.append_assoc]
        case g => assumption
theorem dec_ok (S : Nat) : DecOK S := Nat.strongRecOn S fun S ih => dec_step S ih
end

section
theorem comp_elt {prog : Program} {w : World} {A : Around} {s₂ : Shared} {lit x : Str} {c : Nat} {p1 p2 p3 : Pos} {kk : Nat} {scope : Scope} {C : Addr} {env : Env} {m₂ : Str → Option Value} {n : Int} {t : Tok} {E' : Value → Shared → Prop}
    (hk : scope.kind = .function) (hl : scope.names.lookup x = some .local) (hd : (x == ("__debug__" : Str)) = false) (hns : s₂.heap.Ns C m₂) (hv : m₂ x = some (.int n t)) :
    wpAny (model prog w) A (eval (.Tuple [.Constant (.str lit) c p1, .Name x p2] kk p3) (compEnv scope C env)) (TupLeaf s₂ [PyData.str lit, PyData.int n]) E' s₂ := by
  refine wpAny_Tuple ?_
  walk1
  walk1
  walk1
  refine wpAny_Name (wpAny_loadName_local hk hl hns hv ?_) hd
  walk1
  exact ⟨by simp only [List.length_cons, List.length_nil, sizeLine_eq]; omega, TupLeaf.intro (fun _ _ e => e) (.cons (.str _ _) (.cons (.int _ _) .nil))⟩
/-- the asked numbers as leaves -/
def leafData (lit : Str) (ns : List Int) : List PyData := ns.map fun n => PyData.tuple [.str lit, .int n]
theorem comp_law {prog : Program} {w : World} {A : Around} {E : Value → Shared → Prop} {s : Shared} {h₀ : Heap} {L : Addr} {m : Str → Option Value} {news : List (Addr × Obj)} {env : Env} {iter : PySem.Expr} {lit x : Str} {c : Nat} {p1 p2 p3 px pos : Pos} {kk : Nat} {scope : Scope} {Q : Value → Shared → Prop} {ax : Addr} {vs : List Value} {ns : List Int} {k : Nat}
    (F : Fr h₀ L s.heap m) (N : News h₀ L s.heap news) (hm : (ax, listOf (List.toArray vs) k) ∈ news) (hI : IntsAre vs ns) (hz : ns.length ≤ 900)
    (hi : ∀ Q' : Value → Shared → Prop, Q' (.ref ax) s → wpAny (model prog w) A (eval iter env) Q' E s)
    (hh : A.handled = none) (hfree : ∀ y ∈ scope.names, y.2 ≠ .free) (hcell : ∀ y ∈ scope.names, y.2 ≠ .cell) (hkind : scope.kind = .function)
    (hnames : ∀ y ∈ scope.names, y.2 = .local → scope.names.lookup y.1 = some .local) (hx : scope.names.lookup x = some .local) (hd : (x == ("__debug__" : Str)) = false) (hs : ∀ y, foldedSetIterable iter env y = pure y)
    (h : ∀ D h' tk, Fr h₀ L h' m → News h₀ L h' news → Reads h' (.ref D) (.list (leafData lit ns)) [D] → Q (.ref D) { s with heap := h', toks := tk }) :
    wpAny (model prog w) A (eval (.ListComp (.Tuple [.Constant (.str lit) c p1, .Name x p2] kk p3) [⟨.Name x px, iter, [], 0⟩] scope pos) env) Q E s := by
  refine ListComp_T (h₀ := h₀) (L := L) (m := m) (news := news) (K := ItemKind.int) (pz := fun _ => true) (d := fun n => [PyData.str lit, PyData.int n]) hh hfree hcell hkind hnames hx (hi _ ?_) hs
  refine ⟨ax, vs, ns, rfl, News.isList N hm, IntsAre.areOf hI, by rw [sizeLine_eq]; omega, F, N, ?_, ?_, ?_⟩
  · intro C a v s₂ m₂ E' _ _ _
    exact wpAny_pure ⟨rfl, s₂.heap, s₂.toks, rfl, fun _ _ e => e⟩
  · intro C a v s₂ m₂ E' hv _ hns hmx
    obtain ⟨t, rfl⟩ := ItemKind.int_is hv
    exact comp_elt hkind hx hd hns hmx
  · intro D ys h' tk F' N' _ hl hr _
    refine h D h' tk F' N' (reads_newTups hl ?_)
    rw [List.filter_eq_self.mpr (fun _ _ => rfl)] at hr
    exact hr
theorem leaf_eqv (lit : Str) : ∀ ns : List Int, PyData.eqvAll (leafData lit ns) (leafData lit ns) = true
  | [] => by simp [leafData, PyData.eqvAll]
  | n :: r => by
    have ih := leaf_eqv lit r
    simp only [leafData] at ih
    simp [leafData, PyData.eqvAll, PyData.eqv, ih]
theorem leaf_lay {lit : Str} (h : PyData.strOk lit = true) : ∀ ns : List Int, PyData.canLayAll0 (leafData lit ns) = true ∧ PyData.depthAll (leafData lit ns) ≤ 1
  | [] => by simp [leafData, PyData.canLayAll0, PyData.depthAll]
  | n :: r => by
    have ih := leaf_lay h r
    simp only [leafData] at ih
    simp [leafData, PyData.canLayAll0, PyData.canLay0, PyData.depthAll, PyData.depth, h, ih]
theorem leaf_shaped {lit : Str} (h : PyData.strOk lit = true) (ns : List Int) : SeqAt.shaped (.list (leafData lit ns)) = true := by
  have q := leaf_lay h ns
  have q2 := q.2
  simp [SeqAt.shaped, PyData.canLay0, PyData.depth, q.1]
  omega
theorem eq_same {prog : Program} {w : World} {A : Around} {E : Value → Shared → Prop} {s : Shared} {b : Bool} {Q : Value → Shared → Prop} (h : Q (.bool true) s) : wpAny (model prog w) A (compareOp .Eq (.bool b) (.bool b)) Q E s :=
  eq_bool (by rw [beq_self_eq_true]; exact h)
end

section
theorem meets_more {o : OpenLaw} {K : Params → Frag} {f : Addr} {vs : List Value} {d u d' u' : Nat} {pre : List (Addr × Obj)} {post : Value → List (Addr × Obj) → Prop} (M : Meets o K f vs d u pre post) (hd : d ≤ d') (hu : u ≤ u') : Meets o K f vs d' u' pre post := by
  intro w p loose mean mg mb dp un gd cn cs a ccd cl outer A₀ base h₀ L m s Q E B F X N T hk h1 h2 hret
  exact M w p loose mean mg mb dp un gd cn cs a ccd cl outer A₀ base h₀ L m s Q E B F X N T hk (by omega) (by omega) hret
theorem size_two : ∀ (T : Tree) (d : Nat), T.depth ≤ d → T.size + 1 ≤ 2 ^ d
  | .all, d + 1, _ => by have := Nat.two_pow_pos d; simp only [Tree.size, Nat.pow_succ]; omega
  | .leaf _, d + 1, _ => by have := Nat.two_pow_pos d; simp only [Tree.size, Nat.pow_succ]; omega
  | .neg t, d + 1, h => by
    have := size_two t d (by simp only [Tree.depth] at h; omega)
    have := Nat.two_pow_pos d
    simp only [Tree.size, Nat.pow_succ]; omega
  | .or l r, d + 1, h => by
    have := size_two l d (by simp only [Tree.depth] at h; omega)
    have := size_two r d (by simp only [Tree.depth] at h; omega)
    simp only [Tree.size, Nat.pow_succ]; omega
  | .and l r, d + 1, h => by
    have := size_two l d (by simp only [Tree.depth] at h; omega)
    have := size_two r d (by simp only [Tree.depth] at h; omega)
    simp only [Tree.size, Nat.pow_succ]; omega
  | .all, 0, h => by simp [Tree.depth] at h
  | .leaf _, 0, h => by simp [Tree.depth] at h
  | .neg _, 0, h => by simp [Tree.depth] at h
  | .or _ _, 0, h => by simp [Tree.depth] at h
  | .and _ _, 0, h => by simp [Tree.depth] at h
theorem size_fit {T : Tree} (h : T.depth ≤ 5) : T.size ≤ 31 := by have := size_two T 5 h; omega

theorem law_ask (T : Tree) (v : Value) (as hd' nm tb : Addr) (e1 e2 e3 e4 : Addr × Obj) (o3 : Obj) (bs : List Bool) (k2 : Nat) (R : List (Addr × Obj)) (hT : TreeIn R v T) (hB : T.Below bs.length) (hz : T.size ≤ 31) (hb : bs.length ≤ 16)
    (h1 : e1.1 ≠ as) (h2 : e2.1 ≠ as) (h3 : e3.1 ≠ as) (h4 : e4.1 ≠ as) (h5 : hd' ≠ as) (h6 : tb ≠ as) (h7 : nm ≠ as) (hR : ∀ p ∈ R, p.1 ≠ as) :
    Meets Challenge.rw_nz0262_01 hd.heap_39 49 [v, .ref nm, .ref as] 40 400
      (e1 :: e2 :: (as, listOf #[] 0) :: (hd', listOf #[] 0) :: (tb, o3) :: e3 :: e4 :: (nm, listOf (bs.map Value.bool).toArray k2) :: R)
      (fun r tl => ∃ vs' k', r = .bool (T.met bs) ∧ tl = ((hd', listOf #[] 0) :: (as, listOf (List.toArray vs') k') :: e1 :: e2 :: (tb, o3) :: e3 :: e4 :: (nm, listOf (bs.map Value.bool).toArray k2) :: R) ∧ IntsAre vs' ((T.asks bs).map Int.ofNat)) := by
  have M := ask_ok T.size T v as nm [] [] bs 0 k2 (e1 :: e2 :: (hd', listOf #[] 0) :: (tb, o3) :: e3 :: e4 :: (nm, listOf (bs.map Value.bool).toArray k2) :: R) rfl
    (hT.mono fun p hp => .tail _ (.tail _ (.tail _ (.tail _ (.tail _ (.tail _ (.tail _ hp))))))) hB .nil (by simp only [List.length_nil]; omega) (by omega) (by simp) (by
      intro p hp
      simp only [List.mem_cons] at hp
      rcases hp with h | h | h | h | h | h | h | h
      · rw [h]; exact h1
      · rw [h]; exact h2
      · rw [h]; exact h5
      · rw [h]; exact h6
      · rw [h]; exact h3
      · rw [h]; exact h4
      · rw [h]; exact h7
      · exact hR p h)
  refine meets_more (meets_conseq M ?_ ?_) (by omega) (by omega)
  · intro p hp
    simp only [List.mem_cons] at hp ⊢
    rcases hp with h | h | h | h | h | h | h | h | h <;> simp [h]
  · rintro h₀ h L r tl N ⟨vs', k', rfl, rfl, hI⟩
    refine ⟨_, news_sub N ?_, vs', k', rfl, rfl, by simpa using hI⟩
    intro p hp
    simp only [List.mem_cons] at hp ⊢
    rcases hp with h | h | h | h | h | h | h | h | h <;> simp [h]

theorem law_dec (T : Tree) (v : Value) (hf as hd' nm tb : Addr) (e2 e3 e4 : Addr × Obj) (o3 ol : Obj) (oc : Value) (od : Option Addr) (fd : FuncData) (sl : Array (Option Value)) (bs : List Bool) (k2 : Nat) (R : List (Addr × Obj)) (hT : TreeIn R v T) (hB : T.Below bs.length) (hz : T.size ≤ 31)
    (h1 : hf ≠ hd') (h2 : e2.1 ≠ hd') (h3 : e3.1 ≠ hd') (h4 : e4.1 ≠ hd') (h5 : as ≠ hd') (h6 : tb ≠ hd') (h7 : nm ≠ hd') (hR : ∀ p ∈ R, p.1 ≠ hd')
    (hH : HoldsOK hf hd' bs ((as, ol) :: (hf, (⟨oc, od, .func fd, sl⟩ : Obj)) :: e2 :: (tb, o3) :: e3 :: e4 :: (nm, listOf (bs.map Value.bool).toArray k2) :: R)) :
    Meets Challenge.rw_nz0262_01 hd.heap_39 28 [v, .ref hf] 45 400
      ((hd', listOf #[] 0) :: (as, ol) :: (hf, (⟨oc, od, .func fd, sl⟩ : Obj)) :: e2 :: (tb, o3) :: e3 :: e4 :: (nm, listOf (bs.map Value.bool).toArray k2) :: R)
      (fun r tl => ∃ hs' k', r = .bool (T.met bs) ∧ tl = ((hd', listOf (List.toArray hs') k') :: (as, ol) :: (hf, (⟨oc, od, .func fd, sl⟩ : Obj)) :: e2 :: (tb, o3) :: e3 :: e4 :: (nm, listOf (bs.map Value.bool).toArray k2) :: R) ∧
        LeavesIn ((as, ol) :: (hf, (⟨oc, od, .func fd, sl⟩ : Obj)) :: e2 :: (tb, o3) :: e3 :: e4 :: (nm, listOf (bs.map Value.bool).toArray k2) :: R) hs' (T.asks bs)) := by
  have M := dec_ok T.size T v hf hd' [] bs 0 _ _ oc od fd sl rfl (fun _ h => h)
    (hT.mono fun p hp => .tail _ (.tail _ (.tail _ (.tail _ (.tail _ (.tail _ (.tail _ hp))))))) hB (by simp only [List.length_nil]; omega) (.tail _ (.head _)) hH (by
      intro p hp
      simp only [List.mem_cons] at hp
      rcases hp with h | h | h | h | h | h | h | h
      · rw [h]; exact h5
      · rw [h]; exact h1
      · rw [h]; exact h2
      · rw [h]; exact h6
      · rw [h]; exact h3
      · rw [h]; exact h4
      · rw [h]; exact h7
      · exact hR p h)
  exact meets_more M (by omega) (by omega)
theorem leaves_read {h₀ h : Heap} {L : Addr} {news sub : List (Addr × Obj)} (N : News h₀ L h news) (hs : ∀ p ∈ sub, p ∈ news) {vs : List Value} {ks : List Nat} (l : LeavesIn sub vs ks) : ReadsAll h vs (leafData (Str.ofString "larger") (ks.map Int.ofNat)) [] := by
  induction l with
  | nil => exact ReadsAll.nil
  | cons hm _ ih => exact readsAll_cons_val (reads_tuple_at (N.get (hs _ hm)) rfl rfl (readsAll_cons_val (Reads.str _ _) (readsAll_cons_val (Reads.int _ _) ReadsAll.nil))) ih
theorem heard_eq {prog : Program} {w : World} {A : Around} {E : Value → Shared → Prop} {s : Shared} {h₀ : Heap} {L a D : Addr} {news sub : List (Addr × Obj)} {hs : List Value} {k : Nat} {ks : List Nat} {Q : Value → Shared → Prop}
    (N : News h₀ L s.heap news) (hm : (a, listOf (List.toArray hs) k) ∈ news) (hl : LeavesIn sub hs ks) (hsub : ∀ p ∈ sub, p ∈ news)
    (hr : Reads s.heap (.ref D) (.list (leafData (Str.ofString "larger") (ks.map Int.ofNat))) [D]) (hu : A.units + 64 < cLine) (h : Q (.bool true) s) :
    wpAny (model prog w) A (compareOp .Eq (.ref a) (.ref D)) Q E s := by
  have sh := leaf_shaped (lit := Str.ofString "larger") (by decide +kernel) (ks.map Int.ofNat)
  refine eq_dataH (reads_list_at (N.get hm) rfl rfl (leaves_read N hsub hl)) hr sh sh hu ?_
  have e := leaf_eqv (Str.ofString "larger") (ks.map Int.ofNat)
  rw [PyData.eqv, e]
  exact h
end

section
local macro_rules | `(tactic| walk_at "eval BinOp") => `(tactic| (k_here; dsimp only; walk_at "eval BinOp"))
local macro_rules | `(tactic| walk_at "eval IfExp") => `(tactic| (k_here; dsimp only; walk_at "eval IfExp"))
local macro_rules | `(tactic| k_all) => `(tactic| assumption)
local macro_rules | `(tactic| k_ne) => `(tactic| assumption)
local macro_rules | `(tactic| news_mem) => `(tactic| k_mem)
local macro_rules | `(tactic| k_mem) => `(tactic| assumption)
local macro_rules | `(tactic| k_mem) => `(tactic| exact List.Mem.tail _ (by assumption))
local macro_rules | `(tactic| walk_at "call ref") => `(tactic| (
  k_here
  k_dflt (
    refine' use_meets (law_tree _ _ _ _ _ _ _ _ _ _ _ _ _ _ _ _ _ _ _ _ _ ?hI ?hL ?hz ?hz' ?h1 ?h2 ?h3 ?h4 ?h5 ?h6 ?h7 ?g1 ?g2 ?g4 ?g5 ?g6 ?g7) ?cB ?cF ?cX ?cN ?cT ?cK ?cD ?cU ?_
    (case cN => k_asm); (case cB => k_asm); (case cF => k_asm); (case cX => k_asm); (case cT => k_asm); (case cK => exact rfl)
    (case hI => assumption); (case hL => (first | omega | (rw [List.length_take]; omega))); (case hz => exact fm_lo _ (by decide)); (case hz' => exact fm_hi _ (by decide))
    (case h1 => k_ne); (case h2 => k_ne); (case h3 => k_ne); (case h4 => k_ne); (case h5 => k_ne); (case h6 => k_ne); (case h7 => k_ne); (case g1 => k_ne); (case g2 => k_ne); (case g4 => k_ne); (case g5 => k_ne); (case g6 => k_ne); (case g7 => k_ne)
    (case cD => k_room); (case cU => (first | ktr_units | decide)); k_whole)
  intro r' tl' h' tk' F' N' P'
  obtain ⟨T', bs', k2', R', e', hT', hB', hd', hb', hR'⟩ := P'
  have hRa' := fun p hp => (hR' p hp).1
  have hRb' := fun p hp => (hR' p hp).2.1
  have hRc' := fun p hp => (hR' p hp).2.2
  clear hR'
  (have hS' := size_fit hd')
  (have hA' := askLen bs' T')
  (have hBA' := bools_map bs')
  subst e'
  (try k_sweep)
  (try dsimp only)
  (try k_fold)))

local macro_rules | `(tactic| walk_at "call ref") => `(tactic| (
  k_here
  k_dflt (
    refine' use_meets (law_ask _ _ _ _ _ _ _ _ _ _ _ _ _ _ ?hT ?hB ?hz ?hb ?h1 ?h2 ?h3 ?h4 ?h5 ?h6 ?h7 ?hR) ?cB ?cF ?cX ?cN ?cT ?cK ?cD ?cU ?_
    (case cN => k_asm); (case cB => k_asm); (case cF => k_asm); (case cX => k_asm); (case cT => k_asm); (case cK => exact rfl)
    (case hT => assumption); (case hB => assumption); (case hz => assumption); (case hb => assumption); (case hR => assumption)
    (case h1 => k_ne); (case h2 => k_ne); (case h3 => k_ne); (case h4 => k_ne); (case h5 => k_ne); (case h6 => k_ne); (case h7 => k_ne)
    (case cD => k_room); (case cU => decide); k_whole)
  intro r' tl' h' tk' F' N' P'
  obtain ⟨as', k', e1', e2', l1'⟩ := P'
  subst e1' e2'
  (try k_sweep)
  (try dsimp only)
  (try k_fold)))
local macro_rules | `(tactic| walk_at "call ref") => `(tactic| (
  k_here
  k_dflt (
    refine' use_meets (law_dec _ _ _ _ _ _ _ _ _ _ _ _ _ _ _ _ _ _ _ ?hT ?hB ?hz ?h1 ?h2 ?h3 ?h4 ?h5 ?h6 ?h7 ?hR ?hH) ?cB ?cF ?cX ?cN ?cT ?cK ?cD ?cU ?_
    (case cN => k_asm); (case cB => k_asm); (case cF => k_asm); (case cX => k_asm); (case cT => k_asm); (case cK => exact rfl)
    (case hT => assumption); (case hB => assumption); (case hz => assumption); (case hR => assumption)
    (case h1 => k_ne); (case h2 => k_ne); (case h3 => k_ne); (case h4 => k_ne); (case h5 => k_ne); (case h6 => k_ne); (case h7 => k_ne)
    (case cD => k_room); (case cU => decide)
    (case hH =>
      intro rest9 a9 t9 u9 n9 k9 n29 hs9 hsub9 hr9 hm9 hn9 hz9
      have m0 := hsub9 _ hm9
      have m1 := hsub9 _ (List.Mem.tail _ (List.Mem.head _))
      have m2 := hsub9 _ (List.Mem.tail _ (List.Mem.tail _ (List.Mem.head _)))
      have m4 := hsub9 _ (List.Mem.tail _ (List.Mem.tail _ (List.Mem.tail _ (List.Mem.tail _ (List.Mem.head _)))))
      have m5 := hsub9 _ (List.Mem.tail _ (List.Mem.tail _ (List.Mem.tail _ (List.Mem.tail _ (List.Mem.tail _ (List.Mem.head _))))))
      have m6 := hsub9 _ (List.Mem.tail _ (List.Mem.tail _ (List.Mem.tail _ (List.Mem.tail _ (List.Mem.tail _ (List.Mem.tail _ (List.Mem.head _)))))))
      clear hsub9 hm9
      intro w9 p9 loose9 mean9 mg9 mb9 dp9 un9 gd9 cn9 cs9 a8 ccd9 cl9 outer9 A9 base9 h9 L9 mm9 s9 Q9 E9 B9 F9 X9 N9 TT9 hk9 hd9 hu9 hret9
      refine wpAny_call ?_
      k_dflt (
        refine' code_nest ?k1 ?k2 ?k3 ?k4 ?k5 ?kA ?kF ?kK ?k6 ?k7 ?k8 ?k9 ?kB ?_ ?c2 ?c3 ?c4 ?c5
        (case kA => exact rfl); (case kF => exact rfl); (case kK => assumption); (case k1 => exact B9); (case k2 => exact F9); (case k3 => exact X9); (case k4 => exact N9); (case k5 => exact TT9); (case k6 => exact List.Mem.tail _ m1)
        (case k7 => exact codeRec_news N9 (List.Mem.tail _ m2) (by assumption) (by assumption)); (case k8 => ktr_room); (case k9 => exact BindsTo.of_eq rfl); (case c5 => decide); (case kB => exact locs rfl); (case c2 => exact rfl); (case c3 => exact rfl); (case c4 => exact rfl); k_whole)
      intro g' L' h' FG' F' N' B' X' T'
      (try dsimp only)
      (try k_fold)
      k_steps
      exact hret9 _ _ _ _ (by k_asm) (by k_asm) ⟨_, rfl, rfl⟩)
    k_whole)
  intro r' tl' h' tk' F' N' P'
  obtain ⟨hs', k', e1', e2', l1'⟩ := P'
  subst e1' e2'
  (try k_sweep)
  (try dsimp only)
  (try k_fold)))

local macro_rules | `(tactic| walk_at "eval ListComp") => `(tactic| (
  k_here
  (with_reducible rename Fr _ _ _ _ => lF)
  (with_reducible rename News _ _ _ _ => lN)
  k_dflt (
    refine' comp_law lF lN ?hm ?hI ?hz ?hi ?hh ?hfree ?hcell ?hkind ?hnames ?hx ?hd ?hs ?_
    (case hi => intro Q' hQ'; exact nameX_L lF rfl hQ')
    (case hm => k_mem); (case hI => assumption); (case hz => simp only [List.length_map]; omega)
    (case hh => rfl); (case hfree => decide); (case hcell => decide); (case hkind => rfl); (case hnames => decide); (case hx => rfl); (case hd => decide +kernel); (case hs => intro _; with_unfolding_all rfl))
  intro D' h' tk' F' N' R'
  (try k_sweep)
  (try dsimp only)
  (try k_fold)))
local macro_rules | `(tactic| walk_at "compareOp Eq bool bool") => `(tactic| (k_here; refine eq_same ?_))
local macro_rules | `(tactic| walk_at "compareOp Eq ref ref") => `(tactic| (
  k_here
  k_dflt (
    refine' heard_eq ?N ?hm ?hl ?hsub ?hr ?hu ?_
    (case N => k_asm); (case hr => assumption); (case hl => assumption); (case hm => k_mem); (case hsub => exact fun _ h => .tail _ h); (case hu => exact Nat.le_of_ble_eq_true rfl))))

theorem law_holds : PySem.Challenge.rw_nz0262_01.Holds := by
  refine hd ?_
  w_strict (k_go0; (all_goals try k_fold); k_steps)
end

end Mine
theorem PySem.Challenge.cw_nz0262_01_holds : PySem.Challenge.rw_nz0262_01.Holds := by
  exact Mine.law_holds
