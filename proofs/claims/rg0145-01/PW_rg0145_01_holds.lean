import PyProof.Rows.All
import Wide.All
import OpenK.AllK
import Wide.FinOn
import PySem.Challenge.RW_rg0145_01
set_option Elab.async false
set_option rowWalk.seconds 0
section
open PySem PySem.W PyProof.Rows
namespace Mine
theorem lay (_ : Hook) {p : Prop} (h : False) : p := h.elim
section
local macro_rules | `(tactic| o_head $H) => `(tactic| exact Mine.lay $H (by assumption))
set_option maxRecDepth 100000 in
set_option maxHeartbeats 8000000 in
theorem top (h : False) : PySem.Challenge.rw_rg0145_01.Holds := by
  w_on
  refine holds_law h.elim fun _ => ?_
  x_head
end
end Mine
end
open PySem PySem.W PyProof.Rows
local macro_rules | `(tactic| walk_at $s:str) => `(tactic| k_extra $s)
local macro_rules | `(tactic| k_in) => `(tactic| k_extra "k_in")
local macro_rules | `(tactic| k_all) => `(tactic| k_extra "k_all")
local macro_rules | `(tactic| k_ne) => `(tactic| k_extra "k_ne")
local macro_rules | `(tactic| kcf_all) => `(tactic| k_extra "kcf_all")
section
open PySem PySem.W PyProof.Rows
namespace Mine
structure Halt (P : Prop) : Prop where
  go : P
theorem halt {P : Prop} (h : Halt P) : P := h.go
structure Stop (P : Prop) : Prop where
  go : P

structure St where
  rows : List (Int × List Str)
  words : List Str
  begun : Int
  at_ : Int

/-- the objects of rows: tuples of a place and a list of words -/
inductive RowsAre (tl : List (Addr × Obj)) : List Value → List (Int × List Str) → Prop
  | nil : RowsAre tl [] []
  | cons {ta wa : Addr} {b : Int} {t : Tok} {n wn : Nat} {wvs : List Value} {ws : List Str} {vs : List Value} {rs : List (Int × List Str)} :
      (ta, ({ cls := .type "tuple", data := .seq [.int b t, .ref wa].toArray n } : Obj)) ∈ tl → (wa, listOf wvs.toArray wn) ∈ tl → StrsAre wvs ws → RowsAre tl vs rs → RowsAre tl (.ref ta :: vs) ((b, ws) :: rs)
theorem RowsAre.mono {tl tl' : List (Addr × Obj)} (hs : ∀ p ∈ tl, p ∈ tl') {vs : List Value} {rs : List (Int × List Str)} (h : RowsAre tl vs rs) : RowsAre tl' vs rs := by
  induction h with
  | nil => exact .nil
  | cons h1 h2 h3 _ ih => exact .cons (hs _ h1) (hs _ h2) h3 ih
theorem RowsAre.append {tl : List (Addr × Obj)} {vs us : List Value} {rs qs : List (Int × List Str)} (h : RowsAre tl vs rs) (k : RowsAre tl us qs) : RowsAre tl (vs ++ us) (rs ++ qs) := by
  induction h with
  | nil => exact k
  | cons h1 h2 h3 _ ih => exact .cons h1 h2 h3 ih
theorem RowsAre.length {tl : List (Addr × Obj)} {vs : List Value} {rs : List (Int × List Str)} (h : RowsAre tl vs rs) : vs.length = rs.length := by
  induction h with
  | nil => rfl
  | cons _ _ _ _ ih => simp [ih]

/-- the map of word_rows's frame at a line's start -/
abbrev wMap (ra wa : Addr) (b a : Int) (tb ta : Tok) (u : Str → Option Value) : Str → Option Value := fun z =>
  if z = Str.ofString "rows" then some (.ref ra) else if z = Str.ofString "words" then some (.ref wa) else if z = Str.ofString "begun" then some (.int b tb) else if z = Str.ofString "at" then some (.int a ta) else u z

theorem wMap_of {m : Str → Option Value} {ra wa : Addr} {b a : Int} {tb ta : Tok} (h1 : m (Str.ofString "rows") = some (.ref ra)) (h2 : m (Str.ofString "words") = some (.ref wa)) (h3 : m (Str.ofString "begun") = some (.int b tb)) (h4 : m (Str.ofString "at") = some (.int a ta)) : m = wMap ra wa b a tb ta m := by
  funext z
  show m z = if z = Str.ofString "rows" then some (.ref ra) else if z = Str.ofString "words" then some (.ref wa) else if z = Str.ofString "begun" then some (.int b tb) else if z = Str.ofString "at" then some (.int a ta) else m z
  split
  · rename_i h; rw [h, h1]
  · split
    · rename_i h; rw [h, h2]
    · split
      · rename_i h; rw [h, h3]
      · split
        · rename_i h; rw [h, h4]
        · rfl
section
variable {prog : Program} {w : World} {A : Around} {E : Value → Shared → Prop} {s : Shared} {env : Env} {h₀ : Heap} {body : List Stmt} {Q : Flow → Shared → Prop}

/-- what stands between two lines -/
def WSt (h₀ : Heap) (L ra : Addr) (news tl₀ : List (Addr × Obj)) (c : St) (own : List (Addr × Obj)) (s₁ s₂ : Shared) : Prop :=
  ∃ rvs rn wa wvs wn tl u tb ta h tk, s₂ = { s₁ with heap := h, toks := tk } ∧ RowsAre tl rvs c.rows ∧ StrsAre wvs c.words ∧ (∀ p ∈ tl, ra < p.1) ∧ ra < wa ∧ (∀ p ∈ tl₀, p ∈ tl) ∧ OwnOff own (wa :: (tl.map (·.1))) ∧
    Fr h₀ L h (wMap ra wa c.begun c.at_ tb ta u) ∧ News h₀ L h ((ra, listOf rvs.toArray rn) :: (wa, listOf wvs.toArray wn) :: (tl ++ (news ++ own)))

def WPost (h₀ : Heap) (L ra : Addr) (news tl₀ : List (Addr × Obj)) (c : St) (own : List (Addr × Obj)) (s₁ : Shared) (f : Flow) (s₂ : Shared) : Prop :=
  f = .next ∧ WSt h₀ L ra news tl₀ c own s₁ s₂

theorem wr_iter {l ra wa : Addr} {lvs : List Value} {ls : List Str} {nn n0 n1 : Nat} {news : List (Addr × Obj)} {tb ta : Tok} {m₀ : Str → Option Value} (step : St → Str → St)
    (hh : A.handled = none) (hstr : StrsAre lvs ls) (hwa : ra < wa) (hl : wa < l)
 (F : Fr h₀ env.locals s.heap m₀) (h1 : m₀ (Str.ofString "rows") = some (.ref ra)) (h2 : m₀ (Str.ofString "words") = some (.ref wa)) (h3 : m₀ (Str.ofString "begun") = some (.int 0 tb)) (h4 : m₀ (Str.ofString "at") = some (.int 0 ta))
    (N : News h₀ env.locals s.heap ((l, listOf lvs.toArray nn) :: (wa, listOf ([] : List Value).toArray n0) :: (ra, listOf ([] : List Value).toArray n1) :: news))
    (turn : ∀ (pre : List Str) (y : Str) (post : List Str) (c : St) rvs rn wa wvs wn tl u tb ta h tk own t, ls = pre ++ y :: post → c = pre.foldl step ⟨[], [], 0, 0⟩ →
      RowsAre tl rvs c.rows → StrsAre wvs c.words → (∀ p ∈ tl, ra < p.1) → @LT.lt Nat _ ra wa → OwnOff own [ra] → OwnOff own (wa :: ((tl.map (·.1)) ++ (news.map (·.1)))) →
      Fr h₀ env.locals h (fun z => if z = Str.ofString "line" then some (.str y t) else wMap ra wa c.begun c.at_ tb ta u z) →
      News h₀ env.locals h ((ra, listOf rvs.toArray rn) :: (wa, listOf wvs.toArray wn) :: (tl ++ (news ++ own))) →
      wpAny (model prog w) A (execs body env) (fun f s₂ => Stop (WPost h₀ env.locals ra news tl (step c y) own { s with heap := h, toks := tk } f s₂)) E { s with heap := h, toks := tk })
    (done : ∀ (c : St) rvs rn wa wvs wn tl u tb ta h tk, c = ls.foldl step ⟨[], [], 0, 0⟩ → RowsAre tl rvs c.rows → StrsAre wvs c.words → (∀ p ∈ tl, ra < p.1) → @LT.lt Nat _ ra wa →
      Fr h₀ env.locals h (wMap ra wa c.begun c.at_ tb ta u) → News h₀ env.locals h ((ra, listOf rvs.toArray rn) :: (wa, listOf wvs.toArray wn) :: (tl ++ news)) → Q .next { s with heap := h, toks := tk }) :
    wpAny (model prog w) A (pyIter (.ref l)) (fun it s₂ => LoopAtV prog w A h₀ env (Str.ofString "line") body Q E it s₂) E s := by
  have hlen : lvs.length = ls.length := hstr.length
  have hm := wMap_of h1 h2 h3 h4
  refine kdl_iter (vs := lvs) (nn := nn) (m₀ := m₀) (news := (ra, listOf ([] : List Value).toArray n1) :: (wa, listOf ([] : List Value).toArray n0) :: ([(l, listOf lvs.toArray nn)] ++ news)) (fun i m nx => ∃ c : St, ∃ rvs rn wa wvs wn tl u tb ta, c = (ls.take i).foldl step ⟨[], [], 0, 0⟩ ∧ RowsAre tl rvs c.rows ∧ StrsAre wvs c.words ∧ (∀ p ∈ tl, ra < p.1) ∧ ra < wa ∧ (l, listOf lvs.toArray nn) ∈ tl ∧
      m = wMap ra wa c.begun c.at_ tb ta u ∧ nx = (ra, listOf rvs.toArray rn) :: (wa, listOf wvs.toArray wn) :: (tl ++ news)) hh (by simp) F (fun p hp => N p ?_) ?_ ?_ ?_
  · simp only [List.mem_cons, List.mem_append, List.not_mem_nil, or_false] at hp ⊢
    rcases hp with h | h | h | h <;> simp [h]
  · exact ⟨⟨[], [], 0, 0⟩, [], n1, wa, [], n0, [(l, listOf lvs.toArray nn)], m₀, tb, ta, by simp, .nil, .nil, by simpa using Nat.lt_trans hwa hl, hwa, by simp, hm, rfl⟩
  · rintro i v m₁ nx h tk own hv hoff _ ⟨c, rvs, rn, wa, wvs, wn, tl, u, tb, ta, hc, hR, hS, htl, hw, hlt, rfl, rfl⟩ F₁ N₁
    have hi : i < ls.length := by rw [← hlen]; exact (List.getElem?_eq_some_iff.mp hv).1
    obtain ⟨t, hx⟩ := hstr.get i (ls[i]'hi) (List.getElem?_eq_getElem hi)
    have ev : v = .str (ls[i]'hi) t := by rw [hx] at hv; exact (Option.some.inj hv).symm
    subst ev
    have hs : ls.take (i + 1) = ls.take i ++ [ls[i]'hi] := by rw [List.take_add_one, List.getElem?_eq_getElem hi] <;> rfl
    have e : ls = ls.take i ++ (ls[i]'hi) :: ls.drop (i + 1) := by
      have h9 := List.take_append_drop (i + 1) ls
      rw [hs, List.append_assoc] at h9
      exact h9.symm
    have ho1 : OwnOff own [ra] := fun p hp b hb => hoff p hp b (by simp at hb; simp [hb])
    have ho2 : OwnOff own (wa :: ((tl.map (·.1)) ++ (news.map (·.1)))) := fun p hp b hb => hoff p hp b (by simpa using Or.inr (by simpa using hb))
    have N₂ : News h₀ env.locals h ((ra, listOf rvs.toArray rn) :: (wa, listOf wvs.toArray wn) :: (tl ++ (news ++ own))) := by simpa using N₁
    refine wpAny_mono (turn _ _ _ c rvs rn wa wvs wn tl u tb ta h tk own t e hc hR hS htl hw ho1 ho2 F₁ N₂) (fun f s₂ p => ?_) fun _ _ x => x
    obtain ⟨rfl, rvs', rn', wa', wvs', wn', tl', u', tb', ta', h', tk', hs2, hR', hS', htl', hw', hsub, ho', F', N'⟩ := p.go
    have ho3 : OwnOff own (news.map (·.1)) := fun p hp b hb => ho2 p hp b (List.mem_cons_of_mem _ (List.mem_append_right _ hb))
    refine ⟨h', tk', _, _, (ra, listOf rvs'.toArray rn') :: (wa', listOf wvs'.toArray wn') :: (tl' ++ news), hs2, F', N', ?_, ?_, ?_, ?_, ?_⟩
    · intro p hp
      simp only [List.mem_cons, List.mem_append] at hp ⊢
      rcases hp with h | h | h | h <;> simp [h]
    · intro p hp
      simp [hp]
    · intro p hp b hb
      simp only [List.map_cons, List.map_append, List.mem_cons, List.mem_append] at hb
      rcases hb with hb | hb | hb | hb
      · exact ho1 p hp b (by simp [hb])
      · exact ho' p hp b (by simp [hb])
      · exact ho' p hp b (List.mem_cons_of_mem _ hb)
      · exact ho3 p hp b hb
    · simp [hsub _ hlt]
    · exact ⟨_, rvs', rn', wa', wvs', wn', tl', u', tb', ta', by rw [hs, List.foldl_append, ← hc]; rfl, hR', hS', htl', hw', hsub _ hlt, rfl, rfl⟩
  · rintro m₁ nx h tk ⟨c, rvs, rn, wa, wvs, wn, tl, u, tb, ta, hc, hR, hS, htl, hw, _, rfl, rfl⟩ F₁ N₁
    rw [hlen, List.take_length] at hc
    exact done c rvs rn wa wvs wn tl u tb ta h tk hc hR hS htl hw F₁ N₁
end
end Mine
end
section
open PySem PySem.W PyProof.Rows
namespace Mine
theorem fill (w : World) : (PySem.Challenge.rw_rg0145_01.name = PySem.Challenge.rw_rg0145_01.name) ∧ top.heap_1 w.params = top.heap_1 w.params := ⟨rfl, rfl⟩
abbrev progB : Program := PySem.Challenge.rw_rg0145_01.row.prog
theorem room24 {n : Nat} (h : n ≤ 100000) : n ≤ sizeLine := by rw [sizeLine_eq]; omega
def cutL (y : Str) : Str := Txt.rstrip ((Txt.split y (Str.ofString "#")).headD Str.empty)
section
variable {prog : Program} {w : World} {A : Around} {E : Value → Shared → Prop} {s : Shared} {Q : Value → Shared → Prop} {h₀ : Heap} {L : Addr} {m : Str → Option Value} {news : List (Addr × Obj)}
theorem headD_mem {xs : List Str} (h : 1 ≤ xs.length) : xs.headD Str.empty ∈ xs := by
  cases xs with
  | nil => cases h
  | cons a r => exact List.mem_cons_self ..
theorem rs_rule {y : Str} {t : Tok} (hy : y.length ≤ 2000)
    (k : ∀ t' k, (cutL y).length ≤ 2000 → Q (.str (cutL y) t') { s with toks := k }) : wpAny (model prog w) A (call (.builtin "str.rstrip") [.str ((Txt.split y (Str.ofString "#")).headD Str.empty) t]) Q E s := by
  have hl := part_short (headD_mem (split_pos y (Str.ofString "#")))
  refine SCL.rstrip (hsz := room24 (by omega)) fun t' k' hr => ?_
  exact k t' k' (Nat.le_trans hr (by omega))
theorem item0 {value slice : Expr} {a : Addr} {vs : List Value} {n : Nat} {x y : Str} {u : Tok} (N : News h₀ L s.heap news) (hm : (a, listOf vs.toArray n) ∈ news) (hi : StrsAre vs (Txt.split x y)) (h : ∀ t', Q (.str ((Txt.split x y).headD Str.empty) t') s)
    (hs : subscripted slice false (.ref a) (.int 0 u) = operate [.ref a, .int 0 u] (getItem (.ref a) (.int 0 u)) := by with_unfolding_all rfl) : wpAny (model prog w) A (subscriptTail value slice (.ref a) (.int 0 u)) Q E s := by
  have hl : s.heap.IsList a vs.toArray := ⟨_, (N _ hm).1, rfl, _, rfl⟩
  have hp := split_pos x y
  have e : (Txt.split x y)[0]? = some ((Txt.split x y).headD Str.empty) := by
    cases q : Txt.split x y with
    | nil => rw [q] at hp; cases hp
    | cons a r => rfl
  obtain ⟨t, ht⟩ := hi.get 0 _ e
  exact tail_any hl.typeIs slot_list_getitem.lookup (wpAny_getItem_list hl (by decide) (by decide) (by simpa using ht) (h t)) hs
theorem words_few {x : Str} (h : x.length ≤ 2000) : (Txt.words x).length ≤ 2001 := by
  have := StrLaws.words_weight x
  omega
theorem sp1 {x y : Str} {t u : Tok} (F : Fr h₀ L s.heap m) (N : News h₀ L s.heap news) (hy : (y.length == 0) = false) (hx : x.length ≤ 2000)
    (h : ∀ D vs h' k, StrsAre vs (Txt.split x y) → Fr h₀ L h' m → News h₀ L h' ((D, listOf vs.toArray 0) :: news) → (∀ p ∈ news, p.1 < D) → Q (.ref D) { s with heap := h', toks := k }) :
    wpAny (model prog w) A (call (.builtin "str.split") [.str x t, .str y u]) Q E s :=
  KSpl.split1 F N hy (fun D l h' k e a F' N' l1 => h D _ h' k (e ▸ a) F' N' l1) (room24 (by omega))
theorem sp0 {x : Str} {t : Tok} (F : Fr h₀ L s.heap m) (N : News h₀ L s.heap news) (hx : x.length ≤ 2000)
    (h : ∀ D vs h' k, StrsAre vs (Txt.words x) → (Txt.words x).length ≤ 2001 → Fr h₀ L h' m → News h₀ L h' ((D, listOf vs.toArray 0) :: news) → (∀ p ∈ news, p.1 < D) → Q (.ref D) { s with heap := h', toks := k }) :
    wpAny (model prog w) A (call (.builtin "str.split") [.str x t]) Q E s :=
  KSpl.split0 F N (fun D l h' k e a F' N' l1 => h D _ h' k (e ▸ a) (words_few hx) F' N' l1) (room24 (by omega))
theorem addS {a b : Addr} {us vs : List Value} {n1 n2 : Nat} {xs ys : List Str} (F : Fr h₀ L s.heap m) (N : News h₀ L s.heap news) (ha : (a, listOf us.toArray n1) ∈ news) (hb : (b, listOf vs.toArray n2) ∈ news) (hu : StrsAre us xs) (hv : StrsAre vs ys)
    (hz : xs.length + ys.length ≤ 10000000)
    (h : ∀ D h', Fr h₀ L h' m → News h₀ L h' ((D, listOf (us ++ vs).toArray 0) :: news) → (∀ p ∈ news, p.1 < D) → StrsAre (us ++ vs) (xs ++ ys) → Q (.ref D) { s with heap := h' }) :
    wpAny (model prog w) A (binaryOp .Add (.ref a) (.ref b)) Q E s := by
  have la : s.heap.IsList a us.toArray := ⟨_, (N _ ha).1, rfl, _, rfl⟩
  have lb : s.heap.IsList b vs.toArray := ⟨_, (N _ hb).1, rfl, _, rfl⟩
  refine add_lists F N la lb (fun h' F' N' => h _ h' F' N' (fun p hp => Heap.lt_size (N p hp).1) (StrsAre.append' hu hv)) ?_
  rw [sizeLine_eq, hu.length, hv.length]
  omega
theorem lenS {a : Addr} {vs : List Value} {n : Nat} {xs : List Str} (N : News h₀ L s.heap news) (hm : (a, listOf vs.toArray n) ∈ news) (hi : StrsAre vs xs) (hfit : xs.length ≤ 10000000)
    (h : Q (.int (xs.length : Int) (s.toks + 1)) { s with toks := s.toks + 1 + 1 }) : wpAny (model prog w) A (call (.builtin "len") [.ref a]) Q E s :=
  kst_len N hm hi.length (by omega) h
end
theorem offOf {tl : List (Addr × Obj)} {ra : Addr} (h : ∀ p ∈ tl, ra < p.1) : OwnOff tl [ra] := fun p hp b hb => by rw [List.mem_singleton.mp hb]; exact Nat.ne_of_gt (h p hp)
def lineOf (y : Str) : Str := if Txt.endswith (cutL y) (Str.ofString "\\") = true then Txt.slice (cutL y) none (some (-1)) else cutL y
def stepW (c : St) (y : Str) : St :=
  let ws := c.words ++ Txt.words (lineOf y)
  let b := if (c.words.length : Int) = 0 then c.at_ else c.begun
  let a := c.at_ + (y.length : Int) + 1
  if (0 : Int) < (ws.length : Int) ∧ Txt.endswith (cutL y) (Str.ofString "\\") = false then ⟨c.rows ++ [(b, ws)], [], b, a⟩ else ⟨c.rows, ws, b, a⟩
def st0 : St := ⟨[], [], 0, 0⟩
theorem cutL_short {y : Str} (h : y.length ≤ 2000) : (cutL y).length ≤ 2000 := by
  have h1 := part_short (headD_mem (split_pos y (Str.ofString "#")))
  have h2 := len_rstrip ((Txt.split y (Str.ofString "#")).headD Str.empty)
  unfold cutL
  omega
theorem lineOf_short {y : Str} (h : y.length ≤ 2000) : (lineOf y).length ≤ 2000 := by
  have h1 := cutL_short h
  unfold lineOf
  split
  · exact Nat.le_trans (Txt.slice_le _ _ _) h1
  · exact h1
theorem stepW_bound (c : St) {y : Str} (h : y.length ≤ 2000) : (stepW c y).words.length ≤ c.words.length + 2001 ∧ (stepW c y).rows.length ≤ c.rows.length + 1 := by
  have hw := words_few (lineOf_short h)
  unfold stepW
  dsimp only
  split <;> (try simp only [List.length_append, List.length_nil, List.length_cons]) <;> omega
theorem fold_bound : ∀ (ls : List Str) (c : St), (∀ y ∈ ls, y.length ≤ 2000) → (ls.foldl stepW c).words.length ≤ c.words.length + 2001 * ls.length ∧ (ls.foldl stepW c).rows.length ≤ c.rows.length + ls.length
  | [], c, _ => by simp
  | y :: r, c, h => by
    have h1 := stepW_bound c (h y (.head _))
    have h2 := fold_bound r (stepW c y) fun z hz => h z (.tail _ hz)
    simp only [List.foldl_cons, List.length_cons]
    omega

theorem allLt_at {d : Addr} : ∀ {l : List (Addr × Obj)}, AllLt d l → ∀ p ∈ l, p.1 < d
  | [], _, _, hp => (nomatch hp)
  | q :: r, h, p, hp => by
    rcases List.mem_cons.mp hp with rfl | hp
    · exact h.1
    · exact allLt_at h.2 p hp
section
variable {h₀ h : Heap} {L ra : Addr} {m' : Str → Option Value} {news tl own : List (Addr × Obj)} {c : St} {y : Str} {s₁ : Shared} {tk : Nat} {tb ta : Tok} {rvs wvs us : List Value} {rn wn k2 : Nat} {z : Str} {b a : Int}
theorem endA {D wa : Addr} {p1 p2 p4 : Prop} {x1 x2 x3 : Addr × Obj} (q : p1 ∧ p2 ∧ @LT.lt Nat _ ra D ∧ p4 ∧ AllLt D (tl ++ (news ++ own))) (hR : RowsAre tl rvs c.rows) (hS2 : StrsAre us (c.words ++ Txt.words z)) (hz : lineOf y = z) (htl : ∀ p ∈ tl, ra < p.1)
    (ho2 : OwnOff own (wa :: ((tl.map (·.1)) ++ (news.map (·.1))))) (F' : Fr h₀ L h m') (N' : News h₀ L h ((D, listOf us.toArray k2) :: x1 :: x2 :: (ra, listOf rvs.toArray rn) :: x3 :: (tl ++ (news ++ own))))
    (hc : stepW c y = ⟨c.rows, c.words ++ Txt.words z, b, a⟩)
    (e1 : m' (Str.ofString "rows") = some (.ref ra)) (e2 : m' (Str.ofString "words") = some (.ref D)) (e3 : m' (Str.ofString "begun") = some (.int b tb)) (e4 : m' (Str.ofString "at") = some (.int a ta)) :
    Stop (WPost h₀ L ra news tl (stepW c y) own s₁ .next { s₁ with heap := h, toks := tk }) := by
  obtain ⟨_, _, hD, _, qa⟩ := q
  refine ⟨rfl, rvs, rn, D, us, k2, tl, m', tb, ta, h, tk, rfl, by rw [hc]; exact hR, by rw [hc]; exact hS2, htl, hD, fun _ hp => hp, ?_, ?_, ?_⟩
  · intro p hp b' hb
    rcases List.mem_cons.mp hb with rfl | hb
    · exact Nat.ne_of_lt (allLt_at qa p (by simp [hp]))
    · exact ho2 p hp b' (by simp only [List.mem_cons, List.mem_append]; exact .inr (.inl hb))
  · rw [hc, ← wMap_of e1 e2 e3 e4]; exact F'
  · intro p hp
    refine N' p ?_
    simp only [List.mem_cons, List.mem_append] at hp ⊢
    rcases hp with hp | hp | hp | hp | hp <;> simp [hp]
theorem endB {D D1 T wa : Addr} {p1 p2 p3 p5 q1 q2 q3 q5 q6 r1 r2 r4 : Prop} {x1 x2 x3 : Addr × Obj} {tn : Nat} {tt : Tok} (q : q1 ∧ q2 ∧ q3 ∧ r1 ∧ @LT.lt Nat _ ra D ∧ q6 ∧ AllLt D (tl ++ (news ++ own))) (q' : p1 ∧ p2 ∧ p3 ∧ @LT.lt Nat _ ra T ∧ p5 ∧ AllLt T (tl ++ (news ++ own)))
    (q'' : q5 ∧ r2 ∧ @LT.lt Nat _ ra D1 ∧ r4 ∧ AllLt D1 (tl ++ (news ++ own)))
    (hR : RowsAre tl rvs c.rows) (hS2 : StrsAre us (c.words ++ Txt.words z)) (hz : lineOf y = z) (htl : ∀ p ∈ tl, ra < p.1)
    (ho2 : OwnOff own (wa :: ((tl.map (·.1)) ++ (news.map (·.1))))) (F' : Fr h₀ L h m')
    (N' : News h₀ L h ((D, listOf ([] : List Value).toArray 0) :: (T, { cls := .type "tuple", data := .seq [Value.int b tt, Value.ref D1].toArray tn }) :: (D1, listOf us.toArray k2) :: x1 :: x2 :: (ra, listOf (rvs.toArray.push (Value.ref T)) rn) :: x3 :: (tl ++ (news ++ own))))
    (hc : stepW c y = ⟨c.rows ++ [(b, c.words ++ Txt.words z)], [], b, a⟩)
    (e1 : m' (Str.ofString "rows") = some (.ref ra)) (e2 : m' (Str.ofString "words") = some (.ref D)) (e3 : m' (Str.ofString "begun") = some (.int b tb)) (e4 : m' (Str.ofString "at") = some (.int a ta)) :
    Stop (WPost h₀ L ra news tl (stepW c y) own s₁ .next { s₁ with heap := h, toks := tk }) := by
  rw [List.push_toArray] at N'
  obtain ⟨_, _, _, _, hD, _, qa⟩ := q
  obtain ⟨_, _, _, hT, _, qT⟩ := q'
  obtain ⟨_, _, hD1, _, qD⟩ := q''
  refine ⟨rfl, rvs ++ [.ref T], rn, D, [], 0, (T, { cls := .type "tuple", data := .seq [Value.int b tt, Value.ref D1].toArray tn }) :: (D1, listOf us.toArray k2) :: tl, m', tb, ta, h, tk, rfl, ?_, by rw [hc]; exact .nil, ?_, hD, fun _ hp => by simp [hp], ?_, ?_, ?_⟩
  · rw [hc]
    exact (hR.mono fun p hp => List.mem_cons_of_mem _ (List.mem_cons_of_mem _ hp)).append (.cons (.head _) (.tail _ (.head _)) hS2 .nil)
  · intro p hp
    simp only [List.mem_cons] at hp
    rcases hp with rfl | rfl | hp
    · exact hT
    · exact hD1
    · exact htl p hp
  · intro p hp b' hb
    simp only [List.map_cons, List.mem_cons] at hb
    rcases hb with rfl | rfl | rfl | hb
    · exact Nat.ne_of_lt (allLt_at qa p (by simp [hp]))
    · exact Nat.ne_of_lt (allLt_at qT p (by simp [hp]))
    · exact Nat.ne_of_lt (allLt_at qD p (by simp [hp]))
    · exact ho2 p hp b' (by simp only [List.mem_cons, List.mem_append]; exact .inr (.inl hb))
  · rw [hc, ← wMap_of e1 e2 e3 e4]; exact F'
  · intro p hp
    refine N' p ?_
    rcases List.mem_cons.mp hp with rfl | hp
    · exact .tail _ (.tail _ (.tail _ (.tail _ (.tail _ (.head _)))))
    rcases List.mem_cons.mp hp with rfl | hp
    · exact .head _
    rcases List.mem_append.mp hp with hp | hp
    · rcases List.mem_cons.mp hp with rfl | hp
      · exact .tail _ (.head _)
      rcases List.mem_cons.mp hp with rfl | hp
      · exact .tail _ (.tail _ (.head _))
      exact .tail _ (.tail _ (.tail _ (.tail _ (.tail _ (.tail _ (.tail _ (List.mem_append.mpr (.inl hp))))))))
    · exact .tail _ (.tail _ (.tail _ (.tail _ (.tail _ (.tail _ (.tail _ (List.mem_append.mpr (.inr hp))))))))
end
/-- the rows of a text -/
def rowsOf (x : Str) : List (Int × List Str) :=
  let c := (Txt.split x (Str.ofString "\n")).foldl stepW st0
  if (0 : Int) < (c.words.length : Int) then c.rows ++ [(c.begun, c.words)] else c.rows
abbrev WrQ (x : Str) (h₀ : Heap) (L : Addr) (m : Str → Option Value) (news : List (Addr × Obj)) (Q : Value → Shared → Prop) (s : Shared) : Prop :=
  ∀ h' tk ra rvs rn tl, RowsAre tl rvs (rowsOf x) → (∀ p ∈ tl, ra < p.1) → (∀ p ∈ news, p.1 < ra) → Fr h₀ L h' m → News h₀ L h' ((ra, listOf rvs.toArray rn) :: (tl ++ news)) → Q (.ref ra) { s with heap := h', toks := tk }
section
variable {h₀ h : Heap} {L ra wa : Addr} {m : Str → Option Value} {news tl : List (Addr × Obj)} {c : St} {x : Str} {s : Shared} {tk : Nat} {rvs wvs : List Value} {rn wn : Nat} {Q : Value → Shared → Prop}
theorem fin1 {T : Addr} {tn : Nat} {tt : Tok} {p2 p3 : Prop} (hQ : WrQ x h₀ L m news Q s) (hc : c = (Txt.split x (Str.ofString "\n")).foldl stepW st0) (hpos : (0 : Int) < (c.words.length : Int)) (hR : RowsAre tl rvs c.rows) (hS : StrsAre wvs c.words) (htl : ∀ p ∈ tl, ra < p.1) (hw : ra < wa)
    (q : @LT.lt Nat _ ra T ∧ p2 ∧ p3) (hn : ∀ p ∈ news, p.1 < ra) (F : Fr h₀ L h m) (N : News h₀ L h ((T, { cls := .type "tuple", data := .seq [Value.int c.begun tt, Value.ref wa].toArray tn }) :: (ra, listOf (rvs.toArray.push (Value.ref T)) rn) :: (wa, listOf wvs.toArray wn) :: (tl ++ news))) :
    Q (.ref ra) { s with heap := h, toks := tk } := by
  rw [List.push_toArray] at N
  refine hQ h tk ra (rvs ++ [.ref T]) rn ((T, { cls := .type "tuple", data := .seq [Value.int c.begun tt, Value.ref wa].toArray tn }) :: (wa, listOf wvs.toArray wn) :: tl) ?_ ?_ hn F ?_
  · have e : rowsOf x = c.rows ++ [(c.begun, c.words)] := by unfold rowsOf; rw [← hc]; exact if_pos hpos
    rw [e]
    exact (hR.mono fun p hp => List.mem_cons_of_mem _ (List.mem_cons_of_mem _ hp)).append (.cons (.head _) (.tail _ (.head _)) hS .nil)
  · intro p hp
    rcases List.mem_cons.mp hp with rfl | hp
    · exact q.1
    rcases List.mem_cons.mp hp with rfl | hp
    · exact hw
    exact htl p hp
  · intro p hp
    refine N p ?_
    rcases List.mem_cons.mp hp with rfl | hp
    · exact .tail _ (.head _)
    rcases List.mem_cons.mp hp with rfl | hp
    · exact .head _
    rcases List.mem_cons.mp hp with rfl | hp
    · exact .tail _ (.tail _ (.head _))
    exact .tail _ (.tail _ (.tail _ hp))
theorem fin2 (hQ : WrQ x h₀ L m news Q s) (hc : c = (Txt.split x (Str.ofString "\n")).foldl stepW st0) (hpos : ¬ (0 : Int) < (c.words.length : Int)) (hR : RowsAre tl rvs c.rows) (htl : ∀ p ∈ tl, ra < p.1)
    (hn : ∀ p ∈ news, p.1 < ra) (F : Fr h₀ L h m) (N : News h₀ L h ((ra, listOf rvs.toArray rn) :: (wa, listOf wvs.toArray wn) :: (tl ++ news))) :
    Q (.ref ra) { s with heap := h, toks := tk } := by
  have e : rowsOf x = c.rows := by unfold rowsOf; rw [← hc]; exact if_neg hpos
  refine hQ h tk ra rvs rn tl (by rw [e]; exact hR) htl hn F fun p hp => N p ?_
  rcases List.mem_cons.mp hp with rfl | hp
  · exact .head _
  exact .tail _ (.tail _ hp)
end
#guard_msgs (drop info, drop warning) in
set_option maxRecDepth 100000 in
set_option maxHeartbeats 8000000 in
theorem wr_spec {w : World} {e2 : Env} {nm : Str} {nms : List (Str × NameKind)} {ig ic : Bool} {mo : List (Str × Const)} {a : Addr} {cd : Value} {base h₀ : Heap} {L : Addr} {m mg mb : Str → Option Value} {news : List (Addr × Obj)} {mean : ExcName → Option Value} {E Q : Value → Shared → Prop} {s : Shared} {x : Str} {t : Tok}
    (B : Below (callerA.deeper e2) base [e2] h₀) (F : Fr h₀ L s.heap m) (KX : (top.heap_1 w.params).In h₀) (N : News h₀ L s.heap news)
    {q9 : Program} {lo9 : List Str} (T : Top q9 lo9 mean mg mb h₀) (hx : x.length ≤ 2000)
    (hQ : WrQ x h₀ L m news Q s) :
    wpAny (model progB w) ((callerA.deeper e2).deeper (envOf nm ⟨.function, nms, ig, ic, mo⟩ L a cd)) (call (.ref 145) [.str x t]) Q E s := by
  k_with_none
  (k_with "call builtin:len" => (k_here; (with_reducible show wpAny _ _ (call (Value.builtin "len") [Value.ref _]) _ _ _); k_dflt (refine lenS (by k_asm) (by k_memK) (by assumption) (by first | omega | (rw [List.length_append]; omega)) ?_)))
  (k_with "call builtin:str.split" => (k_here; k_dflt (refine sp1 (by k_asm) (by k_asm) (by decide) (by omega) ?_); (intro D' vs' h' k' a' F' N' l1); (try k_lt l1); (try k_sweep)))
  (k_with "call builtin:str.split" => (k_here; (with_reducible show wpAny _ _ (call (Value.builtin "str.split") [Value.str _ _]) _ _ _); k_dflt (refine sp0 (by k_asm) (by k_asm) (by omega) ?_); (intro D' vs' h' k' a' hwf' F' N' l1); (try k_lt l1); (try k_sweep)))
  (k_with "call builtin:str.rstrip" => (k_here; k_dflt (refine rs_rule (by assumption) ?_); intro t' k' hcutL))
  (k_with "subscriptTail Call Attribute cons nil Constant ref int" => (k_here; (with_unfolding_all refine item0 (by k_asm) (by k_memK) (by assumption) ?_ (by with_unfolding_all rfl)); intro t'))
  (k_with "binaryOp Add ref ref" => (k_here; k_dflt (refine addS (by k_asm) (by k_asm) (by k_memK) (by k_memK) (by assumption) (by assumption) (by omega) ?_); (intro D' h' F' N' l1 a'); (try k_lt l1); (try k_sweep)))
  (k_with "pyIter ref" => (k_here; refine Mine.halt ?_))
  w_top off
  have hf := fill w
  revert hf
  k_fill
  intro _
  have hMark := kstMark
  (refine wpAny_call ?_; k_enter)
  k_steps
  rename_i a' F' N' l1
  refine Halt.mk ?_
  refine wr_iter stepW rfl a' (ltN (by omega)) l1.1 F' rfl rfl rfl rfl N' ?_ ?_
  · clear F' N'
    intro pre y post c rvs rn wa wvs wn tl u tb ta h tk own t hls hc hR hS htl hw ho1 ho2 F N
    have hall : ∀ z ∈ Txt.split x (Str.ofString "\n"), z.length ≤ 2000 := fun z hz => Nat.le_trans (part_short hz) hx
    have hy : y.length ≤ 2000 := hall y (by rw [hls]; simp)
    have hcb := fold_bound pre st0 fun z hz => hall z (by rw [hls]; simp [hz])
    have hpl : pre.length ≤ 2001 := by
      have h1 := split_le x (Str.ofString "\n")
      rw [hls] at h1
      simp only [List.length_append, List.length_cons] at h1
      omega
    have hcw : c.words.length ≤ 4004001 := by rw [hc]; have := hcb.1; simp only [st0, List.length_nil] at this; omega
    have hcr : c.rows.length ≤ 2001 := by rw [hc]; have := hcb.2; simp only [st0, List.length_nil] at this; omega
    have ht1 := offOf htl
    have hrl : rvs.length = c.rows.length := hR.length
    have hwl : wvs.length = c.words.length := hS.length
    clear hcb hall hc
    k_steps
    all_goals first
      | (refine endA (by assumption) (by assumption) (by assumption) (by simp [lineOf, *]; done) (by assumption) (by assumption) (by assumption) (by assumption) ?_ rfl rfl rfl rfl; simp only [stepW, lineOf, *, ↓reduceIte, and_true, and_false, true_and, false_and, and_self, reduceCtorEq, Bool.true_eq_false, Bool.false_eq_true, not_false_eq_true, ne_eq]; done)
      | (refine endB (by assumption) (by assumption) (by assumption) (by assumption) (by assumption) (by simp [lineOf, *]; done) (by assumption) (by assumption) (by assumption) (by assumption) ?_ rfl rfl rfl rfl; simp only [stepW, lineOf, *, ↓reduceIte, and_true, and_false, true_and, false_and, and_self, reduceCtorEq, Bool.true_eq_false, Bool.false_eq_true, not_false_eq_true, ne_eq]; done)
      | skip
  · clear F' N'
    intro c rvs rn wa wvs wn tl u tb ta h tk hc hR hS htl hw F N
    have hall : ∀ z ∈ Txt.split x (Str.ofString "\n"), z.length ≤ 2000 := fun z hz => Nat.le_trans (part_short hz) hx
    have hcb := fold_bound (Txt.split x (Str.ofString "\n")) st0 hall
    have hpl := split_le x (Str.ofString "\n")
    have hcw : c.words.length ≤ 8004001 := by rw [hc]; have := hcb.1; simp only [st0, List.length_nil] at this; omega
    have hcr : c.rows.length ≤ 4001 := by rw [hc]; have := hcb.2; simp only [st0, List.length_nil] at this; omega
    have ht1 := offOf htl
    have hrl : rvs.length = c.rows.length := hR.length
    have hwl : wvs.length = c.words.length := hS.length
    clear hcb hall
    k_steps
    · exact fin1 hQ hc (by assumption) hR hS htl hw (by assumption) (by assumption) (by assumption) (by assumption)
    · exact fin2 hQ hc (by assumption) hR htl (by assumption) (by assumption) (by assumption)
end Mine
end
section
open PySem PySem.W PyProof.Rows
namespace Mine
theorem RowsAre.cons_inv {tl : List (Addr × Obj)} {rvs : List Value} {b : Int} {ws : List Str} {rs : List (Int × List Str)} (h : RowsAre tl rvs ((b, ws) :: rs)) :
    ∃ ta wa t n wn wvs vs, rvs = .ref ta :: vs ∧ (ta, ({ cls := .type "tuple", data := .seq [.int b t, .ref wa].toArray n } : Obj)) ∈ tl ∧ (wa, listOf wvs.toArray wn) ∈ tl ∧ StrsAre wvs ws ∧ RowsAre tl vs rs := by
  cases h with
  | cons h1 h2 h3 h4 => exact ⟨_, _, _, _, _, _, _, rfl, h1, h2, h3, h4⟩
theorem strs1 {vs : List Value} {x : Str} (h : StrsAre vs [x]) : ∃ t, vs = [.str x t] := by
  obtain ⟨t, r, e, h'⟩ := h.cons_inv
  exact ⟨t, by rw [e, h'.nil_inv]⟩
theorem strs2 {vs : List Value} {x y : Str} (h : StrsAre vs [x, y]) : ∃ t u, vs = [.str x t, .str y u] := by
  obtain ⟨t, r, e, h'⟩ := h.cons_inv
  obtain ⟨u, e'⟩ := strs1 h'
  exact ⟨t, u, by rw [e, e']⟩
theorem strs3 {vs : List Value} {x y z : Str} (h : StrsAre vs [x, y, z]) : ∃ t u v, vs = [.str x t, .str y u, .str z v] := by
  obtain ⟨t, r, e, h'⟩ := h.cons_inv
  obtain ⟨u, v, e'⟩ := strs2 h'
  exact ⟨t, u, v, by rw [e, e']⟩
def base6 : List (Int × List Str) := [(0, [Str.ofString ".model", Str.ofString "top"]), (11, [Str.ofString ".inputs", Str.ofString "x"]), (21, [Str.ofString ".outputs", Str.ofString "y"]), (32, [Str.ofString ".names", Str.ofString "x", Str.ofString "y"]), (43, [Str.ofString "0", Str.ofString "1"]), (47, [Str.ofString ".end"])]
abbrev rowObj (b : Int) (t : Tok) (wa : Addr) (n : Nat) : Obj := { cls := .type "tuple", data := .seq [Value.int b t, Value.ref wa].toArray n }
theorem sixRows {P : Prop} {tl : List (Addr × Obj)} {rvs : List Value} {tail : List (Int × List Str)} (h : RowsAre tl rvs (base6 ++ tail))
    (k : ∀ {a0 a1 a2 a3 a4 a5 w0 w1 w2 w3 w4 w5 t0 t1 t2 t3 t4 t5 n0 n1 n2 n3 n4 n5 k0 k1 k2 k3 k4 k5 s0 s0' s1 s1' s2 s2' s3 s3' s3'' s4 s4' s5 tvs}, rvs = .ref a0 :: .ref a1 :: .ref a2 :: .ref a3 :: .ref a4 :: .ref a5 :: tvs → RowsAre tl tvs tail → (a0, rowObj 0 t0 w0 n0) ∈ tl → (w0, listOf [Value.str (Str.ofString ".model") s0, Value.str (Str.ofString "top") s0'].toArray k0) ∈ tl → (a1, rowObj 11 t1 w1 n1) ∈ tl → (w1, listOf [Value.str (Str.ofString ".inputs") s1, Value.str (Str.ofString "x") s1'].toArray k1) ∈ tl → (a2, rowObj 21 t2 w2 n2) ∈ tl → (w2, listOf [Value.str (Str.ofString ".outputs") s2, Value.str (Str.ofString "y") s2'].toArray k2) ∈ tl → (a3, rowObj 32 t3 w3 n3) ∈ tl → (w3, listOf [Value.str (Str.ofString ".names") s3, Value.str (Str.ofString "x") s3', Value.str (Str.ofString "y") s3''].toArray k3) ∈ tl → (a4, rowObj 43 t4 w4 n4) ∈ tl → (w4, listOf [Value.str (Str.ofString "0") s4, Value.str (Str.ofString "1") s4'].toArray k4) ∈ tl → (a5, rowObj 47 t5 w5 n5) ∈ tl → (w5, listOf [Value.str (Str.ofString ".end") s5].toArray k5) ∈ tl → P) : P := by
  obtain ⟨a0, w0, t0, n0, k0, v0, r0, e0, p0, q0, z0, h0⟩ := RowsAre.cons_inv h
  obtain ⟨a1, w1, t1, n1, k1, v1, r1, e1, p1, q1, z1, h1⟩ := RowsAre.cons_inv h0
  obtain ⟨a2, w2, t2, n2, k2, v2, r2, e2, p2, q2, z2, h2⟩ := RowsAre.cons_inv h1
  obtain ⟨a3, w3, t3, n3, k3, v3, r3, e3, p3, q3, z3, h3⟩ := RowsAre.cons_inv h2
  obtain ⟨a4, w4, t4, n4, k4, v4, r4, e4, p4, q4, z4, h4⟩ := RowsAre.cons_inv h3
  obtain ⟨a5, w5, t5, n5, k5, v5, r5, e5, p5, q5, z5, h5⟩ := RowsAre.cons_inv h4
  subst e0 e1 e2 e3 e4 e5
  obtain ⟨s0, s0', rfl⟩ := strs2 z0
  obtain ⟨s1, s1', rfl⟩ := strs2 z1
  obtain ⟨s2, s2', rfl⟩ := strs2 z2
  obtain ⟨s3, s3', s3'', rfl⟩ := strs3 z3
  obtain ⟨s4, s4', rfl⟩ := strs2 z4
  obtain ⟨s5, rfl⟩ := strs1 z5
  exact k rfl h5 p0 q0 p1 q1 p2 q2 p3 q3 p4 q4 p5 q5
theorem newsOf {h₀ : Heap} {L : Addr} {h : Heap} {l l' : List (Addr × Obj)} (N : News h₀ L h l) (hs : ∀ p ∈ l', p ∈ l) : News h₀ L h l' := fun p hp => N p (hs p hp)
theorem regroup {h₀ : Heap} {L : Addr} {h : Heap} {ra : Addr} {ro : Obj} {tl R : List (Addr × Obj)} (E : List (Addr × Obj)) (N : News h₀ L h ((ra, ro) :: (tl ++ R))) (hE : ∀ p ∈ E, p ∈ tl) : News h₀ L h ((ra, ro) :: (E ++ (R ++ tl))) := by
  intro p hp
  refine N p ?_
  rcases List.mem_cons.mp hp with rfl | hp
  · exact .head _
  rcases List.mem_append.mp hp with hp | hp
  · exact .tail _ (List.mem_append.mpr (.inl (hE p hp)))
  rcases List.mem_append.mp hp with hp | hp
  · exact .tail _ (List.mem_append.mpr (.inr hp))
  · exact .tail _ (List.mem_append.mpr (.inl hp))
theorem offR {tl R : List (Addr × Obj)} {ra : Addr} (htl : ∀ p ∈ tl, ra < p.1) (hn : ∀ q ∈ R, q.1 < ra) : OwnOff tl (R.map (·.1)) := fun p hp b hb => by
  obtain ⟨q, hq, rfl⟩ := List.mem_map.mp hb
  exact Nat.ne_of_gt (Nat.lt_trans (hn q hq) (htl p hp))
section
variable {prog : Program} {w : World} {A : Around} {E : Value → Shared → Prop} {s : Shared} {Q : Value → Shared → Prop} {h₀ : Heap} {L : Addr} {m : Str → Option Value} {news : List (Addr × Obj)}
theorem lenR {a : Addr} {tvs : List Value} {v0 v1 v2 v3 v4 v5 : Value} {n : Nat} (hv : tvs.length ≤ 4001) (N : News h₀ L s.heap news) (hm : (a, listOf (v0 :: v1 :: v2 :: v3 :: v4 :: v5 :: tvs).toArray n) ∈ news)
    (h : Q (.int ((tvs.length : Int) + 6) (s.toks + 1)) { s with toks := s.toks + 1 + 1 }) : wpAny (model prog w) A (call (.builtin "len") [.ref a]) Q E s := by
  refine kst_len (k := tvs.length + 6) N hm (by simp only [List.length_cons]) (by omega) ?_
  rw [show (((tvs.length + 6 : Nat)) : Int) = (tvs.length : Int) + 6 from by omega]
  exact h
theorem itemL {value slice : Expr} {a : Addr} {vs : List Value} {n : Nat} {k : Int} {u : Tok} {v : Value} (N : News h₀ L s.heap news) (hm : (a, listOf vs.toArray n) ∈ news) (h0 : 0 ≤ k) (hhi : k < 2 ^ 63) (hx : vs[k.toNat]? = some v) (h : Q v s)
    (hs : subscripted slice false (.ref a) (.int k u) = operate [.ref a, .int k u] (getItem (.ref a) (.int k u)) := by with_unfolding_all rfl) : wpAny (model prog w) A (subscriptTail value slice (.ref a) (.int k u)) Q E s := by
  have hl : s.heap.IsList a vs.toArray := ⟨_, (N _ hm).1, rfl, _, rfl⟩
  exact tail_any hl.typeIs slot_list_getitem.lookup (wpAny_getItem_list hl h0 hhi (by simpa using hx) h) hs
theorem itemT {value slice : Expr} {a : Addr} {vs : List Value} {n : Nat} {k : Int} {u : Tok} {j : Nat} {v : Value} (N : News h₀ L s.heap news) (hm : (a, ({ cls := .type "tuple", data := .seq vs.toArray n } : Obj)) ∈ news) (hlo : -(2 ^ 63) ≤ k) (hhi : k < 2 ^ 63) (hj : seqIndex? k vs.length = some j) (hx : vs[j]? = some v) (h : Q v s)
    (hs : subscripted slice false (.ref a) (.int k u) = operate [.ref a, .int k u] (getItem (.ref a) (.int k u)) := by with_unfolding_all rfl) : wpAny (model prog w) A (subscriptTail value slice (.ref a) (.int k u)) Q E s :=
  item_tupleT (News.isTup N hm) hlo hhi hj hx h hs
end
end Mine
end
section
open PySem PySem.W PyProof.Rows PySem.Calls
namespace Mine
/-- a ledger that is written at its head and ends in tl -/
inductive Spl (tl : List (Addr × Obj)) : List (Addr × Obj) → List (Addr × Obj) → Prop
  | base : Spl tl tl []
  | cons {p : Addr × Obj} {l X : List (Addr × Obj)} : Spl tl l X → Spl tl (p :: l) (p :: X)
theorem Spl.eq {tl l X : List (Addr × Obj)} (h : Spl tl l X) : l = X ++ tl := by
  induction h with
  | base => rfl
  | cons _ ih => rw [ih]; rfl
def TailAt (tl : List (Addr × Obj)) (h : Heap) : Prop := ∀ p ∈ tl, h.get? p.1 = some p.2
def Sep (E tl X : List (Addr × Obj)) : Prop := ∀ q ∈ tl, ∀ p ∈ X, q.1 = p.1 → p ∈ E
def RTail (g : Heap) (E tl : List (Addr × Obj)) (R : Result → Shared → Prop) (r : Result) (s' : Shared) : Prop :=
  match r with
  | .ok f => (∀ L' led', News g L' s'.heap led' → (∀ p ∈ E, p ∈ led') → TailAt tl s'.heap ∧ Sep E tl led') → R (.ok f) s'
  | .error e => R (.error e) s'
section
variable {prog : Program} {w : World} {A A₀ : Around} {s : Shared} {K : Frag} {L : Addr} {h₀ base : Heap} {m mg mb : Str → Option Value} {led X tl E : List (Addr × Obj)} {p : Program} {loose : List Str} {mean : ExcName → Option Value}

theorem code_frame {env : Env} {outer : List Env} {R : Result → Shared → Prop} {name qual : Str} {params : Arguments} {body : List Stmt} {scope : Scope} {dV kV doc pm cdv ct oc : Value} {an od : Option Addr} {osl : Array (Option Value)} {f : Addr} {args : Args} {binds : List (Str × Value)}
    (B : Below A₀ base outer h₀) (F : Fr h₀ L s.heap m) (X₀ : K.In h₀) (N : News h₀ L s.heap led) (T : Top p loose mean mg mb h₀) (hA : A.frames = some (env :: outer)) (hf : env.frame = some L) (hke : env.scope.kind = .function)
    (ho : K.lookup f = some ⟨oc, od, .func (fnOf name qual params body scope dV kV doc pm an cdv ct), osl⟩) (hcd : codeIn K cdv qual = true) (hroom : A.depth < recursionLimit)
    (hbind : BindsTo s (fnOf name qual params body scope dV kV doc pm an cdv ct) args binds) (hloc : ∀ y ∈ binds, scope.names.lookup y.1 = some .local)
    (spl : Spl tl led X) (hsep : Sep E tl X)
    (h : ∀ g L' h₁, Fr h₀ L g m → Fr g L' h₁ (fun y => binds.reverse.lookup y) → News g L' h₁ X → Below A base (env :: outer) g → K.In g → Top p loose mean mg mb g → (∀ p ∈ X, p.1 < L') →
      (∀ h', g.StaysIn h' → (∀ p ∈ E, h'.get? p.1 = some p.2) → TailAt tl h') →
      wpAny (model prog w) (A.deeper (envOf qual scope L' f cdv)) (execs body (envOf qual scope L' f cdv))
        (fun fl s' => LeaveK h₀ L m g (RTail g E tl R) (match fl with | .ret v => v | _ => .none) s')
        (fun e s' => wpAny (model prog w) (A.deeper (envOf qual scope L' f cdv)) (leaving (envOf qual scope L' f cdv) e) (fun _ s'' => R (.error e) s'') (fun e' s'' => R (.error e') s'') s')
        { s with heap := h₁, toks := s.toks + binds.length })
    (hco : scope.isCoroutine = false) (hgen : scope.isGenerator = false) (hk : scope.kind = .function)
    (hcell : ∀ x ∈ scope.names, x.2 ≠ .cell) : codeAny (model prog w) A (.call (.ref f) args) R s := by
  have e := spl.eq
  have NX : News h₀ L s.heap X := fun q hq => N q (by rw [e]; exact List.mem_append.mpr (.inl hq))
  have Nt : TailAt tl s.heap := fun q hq => (N q (by rw [e]; exact List.mem_append.mpr (.inr hq))).1
  obtain ⟨FG, BG, st, lv⟩ := groundX (R := RTail (hideAll s.heap (X.map (·.1))) E tl R) B F NX hA hf hke
  have hT : ∀ h', (hideAll s.heap (X.map (·.1))).StaysIn h' → (∀ p ∈ E, h'.get? p.1 = some p.2) → TailAt tl h' := by
    intro h' k hE q hq
    by_cases hm : q.1 ∈ X.map (·.1)
    · obtain ⟨p', hp', e'⟩ := List.mem_map.mp hm
      have h1 := hE p' (hsep q hq p' hp' e'.symm)
      have h2 := (NX p' hp').1
      have h3 := Nt q hq
      rw [e', h3] at h2
      rw [e', Option.some.inj h2.symm] at h1
      exact h1
    · exact k _ _ (hideAll_get _ (Nt q hq) hm)
  refine codeAny_call_def (fd := fnX name qual params body scope [] dV kV doc pm an cdv ct) (body := body) (binds := binds) hroom ((X₀.keeps F.keep) _ _ ho) rfl (T.nolimit.keeps F.keep) (codeRec_of (X₀.keeps F.keep) hcd) rfl hbind hcell hloc (fun h₁ hns hk₁ => ?_) hco hgen hk
  refine wpAny_mono (h _ s.heap.objs.size h₁ FG ⟨hns, fun b o e => hk₁ b o (of_hideAll _ e), Nat.le_of_eq (hideAll_size _ _)⟩
    (fun p hp => ⟨hk₁ _ _ (NX p hp).1, Nat.ne_of_lt (Heap.lt_size (NX p hp).1), hideAll_none _ (List.mem_map_of_mem hp)⟩) BG (X₀.keeps st) (T.keeps st) (fun p hp => Heap.lt_size (NX p hp).1) hT) (fun fl s' hl => ?_) fun _ _ y => y
  have hr := lv _ _ hl
  obtain ⟨L', m', news', F', N', k⟩ := hl
  refine hr fun L₂ led' N₂ hE => ⟨hT _ F'.keep fun p hp => (N₂ p (hE p hp)).1, fun q hq p hp e' => ?_⟩
  have hn := (N₂ p hp).2.2
  by_cases hm : q.1 ∈ X.map (·.1)
  · obtain ⟨p', hp', e2⟩ := List.mem_map.mp hm
    have h1 := hsep q hq p' hp' e2.symm
    have h2 := (N₂ p' (hE p' h1)).1
    have h3 := (N₂ p hp).1
    rw [e2, e', h3] at h2
    have e3 : p = p' := Prod.ext (e'.symm.trans e2.symm) (Option.some.inj h2)
    rw [e3]; exact h1
  · rw [← e', hideAll_get _ (Nt q hq) hm] at hn
    cases hn
theorem code_frameR {env : Env} {outer : List Env} {R : Result → Shared → Prop} {name qual : Str} {params : Arguments} {body : List Stmt} {scope : Scope} {dV kV doc pm cdv ct oc : Value} {an od : Option Addr} {osl : Array (Option Value)} {f : Addr} {args : Args} {binds : List (Str × Value)}
    (hA : A.frames = some (env :: outer)) (hf : env.frame = some L) (hke : env.scope.kind = .function) (B : Below A₀ base outer h₀) (F : Fr h₀ L s.heap m) (X₀ : K.In h₀) (N : News h₀ L s.heap led) (T : Top p loose mean mg mb h₀) (ho : K.lookup f = some ⟨oc, od, .func (fnOf name qual params body scope dV kV doc pm an cdv ct), osl⟩) (hcd : codeIn K cdv qual = true) (hroom : A.depth < recursionLimit) (hbind : BindsTo s (fnOf name qual params body scope dV kV doc pm an cdv ct) args binds) (hloc : ∀ y ∈ binds, scope.names.lookup y.1 = some .local) (hsep : Sep E tl X) (spl : Spl tl led X) (h : ∀ g L' h₁, Fr h₀ L g m → Fr g L' h₁ (fun y => binds.reverse.lookup y) → News g L' h₁ X → Below A base (env :: outer) g → K.In g → Top p loose mean mg mb g → (∀ p ∈ X, p.1 < L') →
      (∀ h', g.StaysIn h' → (∀ p ∈ E, h'.get? p.1 = some p.2) → TailAt tl h') →
      wpAny (model prog w) (A.deeper (envOf qual scope L' f cdv)) (execs body (envOf qual scope L' f cdv))
        (fun fl s' => LeaveK h₀ L m g (RTail g E tl R) (match fl with | .ret v => v | _ => .none) s')
        (fun e s' => wpAny (model prog w) (A.deeper (envOf qual scope L' f cdv)) (leaving (envOf qual scope L' f cdv) e) (fun _ s'' => R (.error e) s'') (fun e' s'' => R (.error e') s'') s')
        { s with heap := h₁, toks := s.toks + binds.length }) (hco : scope.isCoroutine = false) (hgen : scope.isGenerator = false) (hk : scope.kind = .function) (hcell : ∀ x ∈ scope.names, x.2 ≠ .cell) : codeAny (model prog w) A (.call (.ref f) args) R s :=
  code_frame B F X₀ N T hA hf hke ho hcd hroom hbind hloc spl hsep h hco hgen hk hcell
theorem tail_back {P : Prop} {h g : Heap} {L' : Addr} (N : News h₀ L h led) (N₂ : News g L' h led) (hto : ∀ p ∈ tl, p.1 ≠ L ∧ h₀.get? p.1 = none) (hE : ∀ p ∈ E, p ∈ led) (k : News h₀ L h (led ++ tl) → Sep E tl led → P) :
    (∀ L' led', News g L' h led' → (∀ p ∈ E, p ∈ led') → TailAt tl h ∧ Sep E tl led') → P := fun ht =>
  have q := ht L' led N₂ hE
  k (fun p hp => (List.mem_append.mp hp).elim (N p) fun hp => ⟨q.1 p hp, hto p hp⟩) q.2
theorem tail_backR {P : Prop} {h g : Heap} {L' : Addr}
    (hto : ∀ p ∈ tl, p.1 ≠ L ∧ h₀.get? p.1 = none) (N : News h₀ L h led) (N₂ : News g L' h led) (hE : ∀ p ∈ E, p ∈ led) (k : News h₀ L h (led ++ tl) → Sep E tl led → P) :
    (∀ L' led', News g L' h led' → (∀ p ∈ E, p ∈ led') → TailAt tl h ∧ Sep E tl led') → P :=
  tail_back N N₂ hto hE k
theorem sep_nil : Sep E tl [] := fun _ _ _ hp => nomatch hp
theorem sep_low {ra : Addr} {p : Addr × Obj} (htl : ∀ q ∈ tl, ra < q.1) (hp : @LE.le Nat _ p.1 ra) (h : Sep E tl X) : Sep E tl (p :: X) := fun q hq p' hp' e => by
  rcases List.mem_cons.mp hp' with rfl | hp'
  · exact absurd (htl q hq) (by rw [e]; exact Nat.not_lt.mpr hp)
  · exact h q hq p' hp' e
theorem sep_in {p : Addr × Obj} (hp : p ∈ E) (h : Sep E tl X) : Sep E tl (p :: X) := fun q hq p' hp' e => by
  rcases List.mem_cons.mp hp' with rfl | hp'
  · exact hp
  · exact h q hq p' hp' e
theorem sep_start {P : Prop} {h : Heap} (E : List (Addr × Obj)) (_N : News h₀ L h led) (_spl : Spl tl led X) (hs : Sep E tl X) (k : Sep E tl X → P) : P := k hs
end
end Mine
end
section
open PySem PySem.W PyProof.Rows PySem.Calls
namespace Mine
section
variable {prog : Program} {w : World} {A A₀ : Around} {s : Shared} {K : Frag} {L : Addr} {h₀ base : Heap} {m mg mb : Str → Option Value} {led X tl E : List (Addr × Obj)} {p : Program} {loose : List Str} {mean : ExcName → Option Value}
theorem code_frameC {env : Env} {outer : List Env} {R : Result → Shared → Prop} {name qual : Str} {params : Arguments} {body : List Stmt} {scope : Scope} {dV kV doc pm cdv ct oc : Value} {an od : Option Addr} {osl : Array (Option Value)} {f : Addr} {args : Args} {binds : List (Str × Value)}
    (B : Below A₀ base outer h₀) (F : Fr h₀ L s.heap m) (X₀ : K.In h₀) (N : News h₀ L s.heap led) (T : Top p loose mean mg mb h₀) (hA : A.frames = some (env :: outer)) (hf : env.frame = some L) (hke : env.scope.kind = .function)
    (ho : K.lookup f = some ⟨oc, od, .func (fnOf name qual params body scope dV kV doc pm an cdv ct), osl⟩) (hcd : codeIn K cdv qual = true) (hroom : A.depth < recursionLimit)
    (hbind : BindsTo s (fnOf name qual params body scope dV kV doc pm an cdv ct) args binds) (hkind : (binds.all fun y => scope.names.lookup y.1 == some .local || scope.names.lookup y.1 == some .cell) = true)
    (hnd : ((cellsFrom 0 scope.names []).map (·.1)).Nodup)
    (spl : Spl tl led X) (hsep : Sep E tl X)
    (h : ∀ g L' h₁ tk cells, Fr h₀ L g m → Fr g L' h₁ (bindL (envOfC qual scope L' f cdv).kindOf binds fun _ => none) → News g L' h₁ (cells ++ X) →
      CellsAre (bindC (envOfC qual scope L' f cdv).kindOf binds fun _ => none) (cellsFrom (L' + 1) scope.names []) cells → Below A base (env :: outer) g → K.In g → Top p loose mean mg mb g → (∀ p ∈ X, p.1 < L') →
      (∀ h', g.StaysIn h' → (∀ p ∈ E, h'.get? p.1 = some p.2) → TailAt tl h') →
      wpAny (model prog w) (A.deeper (envOfC qual scope L' f cdv)) (execs body (envOfC qual scope L' f cdv))
        (fun fl s' => LeaveK h₀ L m g (RTail g E tl R) (match fl with | .ret v => v | _ => .none) s')
        (fun e s' => wpAny (model prog w) (A.deeper (envOfC qual scope L' f cdv)) (leaving (envOfC qual scope L' f cdv) e) (fun _ s'' => R (.error e) s'') (fun e' s'' => R (.error e') s'') s')
        { s with heap := h₁, toks := tk })
    (hco : scope.isCoroutine = false) (hgen : scope.isGenerator = false) (hk : scope.kind = .function) : codeAny (model prog w) A (.call (.ref f) args) R s := by
  have e := spl.eq
  have NX : News h₀ L s.heap X := fun q hq => N q (by rw [e]; exact List.mem_append.mpr (.inl hq))
  have Nt : TailAt tl s.heap := fun q hq => (N q (by rw [e]; exact List.mem_append.mpr (.inr hq))).1
  obtain ⟨FG, BG, st, lv⟩ := groundX (R := RTail (hideAll s.heap (X.map (·.1))) E tl R) B F NX hA hf hke
  have hT : ∀ h', (hideAll s.heap (X.map (·.1))).StaysIn h' → (∀ p ∈ E, h'.get? p.1 = some p.2) → TailAt tl h' := by
    intro h' k hE q hq
    by_cases hm : q.1 ∈ X.map (·.1)
    · obtain ⟨p', hp', e'⟩ := List.mem_map.mp hm
      have h1 := hE p' (hsep q hq p' hp' e'.symm)
      have h2 := (NX p' hp').1
      have h3 := Nt q hq
      rw [e', h3] at h2
      rw [e', Option.some.inj h2.symm] at h1
      exact h1
    · exact k _ _ (hideAll_get _ (Nt q hq) hm)
  refine codeAny_call_function hroom ((X₀.keeps F.keep) _ _ ho) rfl hco hgen rfl (codeRec_of (X₀.keeps F.keep) hcd) (hbind _ _ _ _ ?_)
  refine wpAny_newFunctionEnv_cells hk (kindsX hkind _) fun env' he s' x => ?_
  subst he
  refine ⟨(T.nolimit.keeps F.keep).keeps x.toInCall.keep, codeAny_func ?_⟩
  obtain ⟨h₁, tk, rfl, _⟩ := x.done
  have hk₁ := x.toInCall.keep
  obtain ⟨cells, NC, Y⟩ := Cl.news (h₀ := s.heap) (Nat.le_refl _) fun n c hm => ⟨x.cell n c (lookup_of_mem_nodup (cellsFrom_names scope.names 0 (s.heap.objs.size + 1) [] [] rfl ▸ hnd) hm), x.above n c hm⟩
  refine wpAny_mono (h _ s.heap.objs.size h₁ tk cells FG ⟨x.toInCall.ns, fun b o e => hk₁ b o (of_hideAll _ e), Nat.le_of_eq (hideAll_size _ _)⟩ (fun p hp => ?_) Y BG (X₀.keeps st) (T.keeps st) (fun p hp => Heap.lt_size (NX p hp).1) hT) (fun fl s' hl => ?_) fun _ _ y => y
  · rcases List.mem_append.mp hp with hp | hp
    · refine ⟨(NC p hp).1, (NC p hp).2.1, ?_⟩
      cases q : (hideAll s.heap (X.map (·.1))).get? p.1 with
      | none => rfl
      | some o => have := of_hideAll _ q; rw [(NC p hp).2.2] at this; cases this
    · exact ⟨hk₁ _ _ (NX p hp).1, Nat.ne_of_lt (Heap.lt_size (NX p hp).1), hideAll_none _ (List.mem_map_of_mem hp)⟩
  have hr := lv _ _ hl
  obtain ⟨L', m', news', F', N', k⟩ := hl
  refine hr fun L₂ led' N₂ hE => ⟨hT _ F'.keep fun p hp => (N₂ p (hE p hp)).1, fun q hq p hp e' => ?_⟩
  have hn := (N₂ p hp).2.2
  by_cases hm : q.1 ∈ X.map (·.1)
  · obtain ⟨p', hp', e2⟩ := List.mem_map.mp hm
    have h1 := hsep q hq p' hp' e2.symm
    have h2 := (N₂ p' (hE p' h1)).1
    have h3 := (N₂ p hp).1
    rw [e2, e', h3] at h2
    have e3 : p = p' := Prod.ext (e'.symm.trans e2.symm) (Option.some.inj h2)
    rw [e3]; exact h1
  · rw [← e', hideAll_get _ (Nt q hq) hm] at hn
    cases hn
theorem code_frameCR {env : Env} {outer : List Env} {R : Result → Shared → Prop} {name qual : Str} {params : Arguments} {body : List Stmt} {scope : Scope} {dV kV doc pm cdv ct oc : Value} {an od : Option Addr} {osl : Array (Option Value)} {f : Addr} {args : Args} {binds : List (Str × Value)}
    (hA : A.frames = some (env :: outer)) (hf : env.frame = some L) (hke : env.scope.kind = .function) (B : Below A₀ base outer h₀) (F : Fr h₀ L s.heap m) (X₀ : K.In h₀) (N : News h₀ L s.heap led) (T : Top p loose mean mg mb h₀) (ho : K.lookup f = some ⟨oc, od, .func (fnOf name qual params body scope dV kV doc pm an cdv ct), osl⟩) (hcd : codeIn K cdv qual = true) (hroom : A.depth < recursionLimit) (hbind : BindsTo s (fnOf name qual params body scope dV kV doc pm an cdv ct) args binds) (hkind : (binds.all fun y => scope.names.lookup y.1 == some .local || scope.names.lookup y.1 == some .cell) = true) (hnd : ((cellsFrom 0 scope.names []).map (·.1)).Nodup) (hsep : Sep E tl X) (spl : Spl tl led X) (h : ∀ g L' h₁ tk cells, Fr h₀ L g m → Fr g L' h₁ (bindL (envOfC qual scope L' f cdv).kindOf binds fun _ => none) → News g L' h₁ (cells ++ X) →
      CellsAre (bindC (envOfC qual scope L' f cdv).kindOf binds fun _ => none) (cellsFrom (L' + 1) scope.names []) cells → Below A base (env :: outer) g → K.In g → Top p loose mean mg mb g → (∀ p ∈ X, p.1 < L') →
      (∀ h', g.StaysIn h' → (∀ p ∈ E, h'.get? p.1 = some p.2) → TailAt tl h') →
      wpAny (model prog w) (A.deeper (envOfC qual scope L' f cdv)) (execs body (envOfC qual scope L' f cdv))
        (fun fl s' => LeaveK h₀ L m g (RTail g E tl R) (match fl with | .ret v => v | _ => .none) s')
        (fun e s' => wpAny (model prog w) (A.deeper (envOfC qual scope L' f cdv)) (leaving (envOfC qual scope L' f cdv) e) (fun _ s'' => R (.error e) s'') (fun e' s'' => R (.error e') s'') s')
        { s with heap := h₁, toks := tk }) (hco : scope.isCoroutine = false) (hgen : scope.isGenerator = false) (hk : scope.kind = .function) : codeAny (model prog w) A (.call (.ref f) args) R s :=
  code_frameC B F X₀ N T hA hf hke ho hcd hroom hbind hkind hnd spl hsep h hco hgen hk
end
end Mine
end
section
section
open PySem PySem.W PyProof.Rows PyProof.V
namespace Mine
theorem sub_nil {L : List (Addr × Obj)} : ∀ p ∈ ([] : List (Addr × Obj)), p ∈ L := fun _ h => nomatch h
theorem sub_cons {a : Addr × Obj} {l L : List (Addr × Obj)} (h : a ∈ L) (t : ∀ p ∈ l, p ∈ L) : ∀ p ∈ a :: l, p ∈ L := fun p hp => by
  rcases List.mem_cons.mp hp with rfl | hp
  · exact h
  · exact t p hp
theorem all_cons {α : Type} {P : α → Prop} {a : α} {l : List α} (h : P a) (t : ∀ x ∈ l, P x) : ∀ x ∈ a :: l, P x := fun x hx => by
  rcases List.mem_cons.mp hx with rfl | hx
  · exact h
  · exact t x hx
theorem ex5 {α β γ δ ε : Type} {p : α → β → γ → δ → ε → Prop} {a : α} {b : β} {c : γ} {d : δ} {e : ε} (h : p a b c d e) : ∃ a b c d e, p a b c d e := ⟨a, b, c, d, e, h⟩
/-- x stands ahead of y in a list -/
inductive Bf (x y : Nat) : List Nat → Prop
  | here {r : List Nat} : y ∈ r → Bf x y (x :: r)
  | there {z : Nat} {r : List Nat} : Bf x y r → Bf x y (z :: r)
theorem bf_lt {x y : Nat} : ∀ {l : List Nat}, List.Pairwise (fun a b => @LT.lt Nat _ a b) l → Bf x y l → @LT.lt Nat _ x y
  | _ :: _, .cons h _, .here hm => h _ hm
  | _ :: _, .cons _ h, .there b => bf_lt h b
theorem bf_ne {x y : Nat} {l : List Nat} (h : List.Pairwise (fun a b => @LT.lt Nat _ a b) l) (b : Bf x y l) : @Ne Nat x y := Nat.ne_of_lt (bf_lt h b)
/-- x and y stand in a list, at two places -/
inductive Ap (x y : Nat) : List Nat → Prop
  | here {r : List Nat} : y ∈ r → Ap x y (x :: r)
  | back {r : List Nat} : x ∈ r → Ap x y (y :: r)
  | there {z : Nat} {r : List Nat} : Ap x y r → Ap x y (z :: r)
theorem ap_ne {x y : Nat} : ∀ {l : List Nat}, List.Pairwise (fun a b => @LT.lt Nat _ a b) l → Ap x y l → @Ne Nat x y
  | _ :: _, .cons h _, .here hm => Nat.ne_of_lt (h _ hm)
  | _ :: _, .cons h _, .back hm => Nat.ne_of_gt (h _ hm)
  | _ :: _, .cons _ h, .there b => ap_ne h b
theorem ne_nwS {l : List (Addr × Obj)} {a d k : Nat} {o : Obj} (h : ∀ p ∈ l, @LT.lt Nat _ p.1 d) (hm : (a, o) ∈ l) : @Ne Nat a (d + k) := Nat.ne_of_lt (Nat.lt_of_lt_of_le (h _ hm) (Nat.le_add_right _ _))
theorem ne_nwT {l : List (Addr × Obj)} {a d j k : Nat} {o : Obj} (h : ∀ p ∈ l, @LT.lt Nat _ p.1 d) (hm : (a, o) ∈ l) : @Ne Nat a (d + j + k) := by rw [Nat.add_assoc]; exact ne_nwS h hm
theorem lt_nw {l : List (Addr × Obj)} {a d : Addr} {o : Obj} (h : ∀ p ∈ l, p.1 < d) (hm : (a, o) ∈ l) : @LT.lt Nat _ a d := h _ hm
theorem ne_nw {l : List (Addr × Obj)} {a d : Addr} {o : Obj} (h : ∀ p ∈ l, p.1 < d) (hm : (a, o) ∈ l) : @Ne Nat a d := Nat.ne_of_lt (h _ hm)
theorem le1_ne {ks : List Nat} {ra x a : Nat} (h : ∀ x ∈ ks, @LE.le Nat _ x ra) (ha : @LT.lt Nat _ ra a) (hm : x ∈ ks) : @Ne Nat x a := Nat.ne_of_lt (Nat.lt_of_le_of_lt (h _ hm) ha)
theorem leE_ne {ks : List Nat} {E : List (Addr × Obj)} {ra x a : Nat} {o : Obj} (h : ∀ x ∈ ks, @LE.le Nat _ x ra) (hE : ∀ e ∈ E, @LT.lt Nat _ ra e.1) (hm : x ∈ ks) (me : (a, o) ∈ E) : @Ne Nat x a := Nat.ne_of_lt (Nat.lt_of_le_of_lt (h _ hm) (hE _ me))
theorem lt_nw2 {l : List (Addr × Obj)} {a d x : Addr} {o : Obj} (l2 : @LT.lt Nat _ d x) (h : ∀ p ∈ l, p.1 < d) (hm : (a, o) ∈ l) : @LT.lt Nat _ a x := Nat.lt_trans (h _ hm) l2
theorem ne_nw2 {l : List (Addr × Obj)} {a d x : Addr} {o : Obj} (l2 : @LT.lt Nat _ d x) (h : ∀ p ∈ l, p.1 < d) (hm : (a, o) ∈ l) : @Ne Nat a x := Nat.ne_of_lt (lt_nw2 l2 h hm)
/-- the order in which BlifReader() makes its things -/
def Lts (rd r nd nl li lo lc dn dd lO dp : Nat) : Prop := rd < r ∧ r < nd ∧ nd < nl ∧ nl < li ∧ li < lo ∧ lo < lc ∧ lc < dn ∧ dn < dd ∧ dd < lO ∧ lO < dp
theorem pw_cons {a b : Nat} {l : List Nat} (hab : @LT.lt Nat _ a b) (h : List.Pairwise (fun a b => @LT.lt Nat _ a b) (b :: l)) : List.Pairwise (fun a b => @LT.lt Nat _ a b) (a :: b :: l) := by
  refine .cons (fun x hx => ?_) h
  rcases List.mem_cons.mp hx with rfl | hx
  · exact hab
  · exact Nat.lt_trans hab (List.rel_of_pairwise_cons h hx)
theorem lts_pw {rd r nd nl li lo lc dn dd lO dp ra : Nat} (hl : Lts rd r nd nl li lo lc dn dd lO dp) (hra : @LT.lt Nat _ dp ra) : List.Pairwise (fun a b => @LT.lt Nat _ a b) [rd, r, nd, nl, li, lo, lc, dn, dd, lO, dp, ra] := by
  obtain ⟨h1, h2, h3, h4, h5, h6, h7, h8, h9, h10⟩ := hl
  exact pw_cons h1 (pw_cons h2 (pw_cons h3 (pw_cons h4 (pw_cons h5 (pw_cons h6 (pw_cons h7 (pw_cons h8 (pw_cons h9 (pw_cons h10 (pw_cons hra (List.pairwise_singleton _ _)))))))))))
theorem pw_last {ra : Nat} : ∀ {l : List Nat}, List.Pairwise (fun a b => @LT.lt Nat _ a b) (l ++ [ra]) → ∀ x ∈ l ++ [ra], @LE.le Nat _ x ra
  | [], _ => fun x hx => Nat.le_of_eq (List.mem_singleton.mp hx)
  | a :: l, .cons h t => fun x hx => by
    rcases List.mem_cons.mp hx with rfl | hx
    · exact Nat.le_of_lt (h _ (List.mem_append.mpr (.inr (.head _))))
    · exact pw_last t x hx
theorem lts_le {rd r nd nl li lo lc dn dd lO dp ra : Nat} (hl : Lts rd r nd nl li lo lc dn dd lO dp) (hra : @LT.lt Nat _ dp ra) : ∀ x ∈ [rd, r, nd, nl, li, lo, lc, dn, dd, lO, dp, ra], @LE.le Nat _ x ra :=
  pw_last (l := [rd, r, nd, nl, li, lo, lc, dn, dd, lO, dp]) (lts_pw hl hra)
end Mine
end
end
local macro_rules | `(tactic| k_lt $h:ident) => `(tactic| skip)
section
open PySem PySem.W PyProof.Rows PyProof.V
namespace Mine
/-- the netlist's own dict -/
abbrev nlD (w : World) (t0 t1 t2 t3 t4 t5 t6 : Nat) (nm : Str) (c : Int) (li lo lc : Addr) : Obj := dictOf [
  ⟨PyData.keyHash w.params (Str.ofString "name"), .str (Str.ofString "name") t0, .str nm t1⟩, ⟨PyData.keyHash w.params (Str.ofString "count"), .str (Str.ofString "count") t2, .int c t3⟩,
  ⟨PyData.keyHash w.params (Str.ofString "inputs"), .str (Str.ofString "inputs") t4, .ref li⟩, ⟨PyData.keyHash w.params (Str.ofString "outputs"), .str (Str.ofString "outputs") t5, .ref lo⟩,
  ⟨PyData.keyHash w.params (Str.ofString "cells"), .str (Str.ofString "cells") t6, .ref lc⟩] 5
/-- the reader's own dict -/
abbrev rdD (w : World) (u0 u1 u2 u3 u4 u5 : Nat) (b : Bool) (nl dn dd lO dp : Addr) : Obj := dictOf [
  ⟨PyData.keyHash w.params (Str.ofString "netlist"), .str (Str.ofString "netlist") u0, .ref nl⟩, ⟨PyData.keyHash w.params (Str.ofString "nets"), .str (Str.ofString "nets") u1, .ref dn⟩,
  ⟨PyData.keyHash w.params (Str.ofString "driven"), .str (Str.ofString "driven") u2, .ref dd⟩, ⟨PyData.keyHash w.params (Str.ofString "outputs"), .str (Str.ofString "outputs") u3, .ref lO⟩,
  ⟨PyData.keyHash w.params (Str.ofString "output_places"), .str (Str.ofString "output_places") u4, .ref dp⟩, ⟨PyData.keyHash w.params (Str.ofString "begun"), .str (Str.ofString "begun") u5, .bool b⟩] 6
abbrev FF : Str := Str.ofString "$false"
abbrev TT : Str := Str.ofString "$true"
#guard_msgs (drop info, drop warning) in
set_option maxRecDepth 100000 in
set_option maxHeartbeats 1000000 in
theorem bi_spec {w : World} {e2 : Env} {nm : Str} {nms : List (Str × NameKind)} {ig ic : Bool} {mo : List (Str × Const)} {a : Addr} {cd : Value} {base h₀ : Heap} {L : Addr} {m mg mb : Str → Option Value} {mean : ExcName → Option Value} {E Q : Value → Shared → Prop} {s : Shared}
    (B : Below (callerA.deeper e2) base [e2] h₀) (F : Fr h₀ L s.heap m) (KX : (top.heap_1 w.params).In h₀) (N : News h₀ L s.heap [])
    {q9 : Program} {lo9 : List Str} (T : Top q9 lo9 mean mg mb h₀)
    (k : ∀ {h' : Heap} {tk' t0 t1 t2 t3 t4 t5 t6 u0 u1 u2 u3 u4 u5 v0 v1 : Nat} {rd r nd nl li lo lc dn dd lO dp : Addr} {on od op : Obj}, Fr h₀ L h' m →
      News h₀ L h' [(dp, op), (lO, listOf #[] 0), (dd, od), (dn, on), (lc, listOf #[] 0), (lo, listOf #[] 0), (li, listOf #[] 0), (nl, instObj 127 nd), (nd, nlD w t0 t1 t2 t3 t4 t5 t6 (Str.ofString "") 2 li lo lc), (r, instObj 238 rd), (rd, rdD w u0 u1 u2 u3 u4 u5 false nl dn dd lO dp)] →
      Lts rd r nd nl li lo lc dn dd lO dp → (dn == sysModules) = false → (dd == sysModules) = false → (dp == sysModules) = false → op.IsDictOf (PySem.strKind progB w) [] →
      on.IsDictOf (PySem.strKind progB w) [(FF, .int 0 v0), (TT, .int 1 v1)] → FlatPairs PyData.str [(FF, .int 0 v0), (TT, .int 1 v1)] [(.str FF, .int 0), (.str TT, .int 1)] →
      od.IsDictOf (PySem.strKind progB w) [(FF, .bool true), (TT, .bool true)] → FlatPairs PyData.str [(FF, .bool true), (TT, .bool true)] [(.str FF, .bool true), (.str TT, .bool true)] →
      Q (.ref r) { s with heap := h', toks := tk' }) :
    wpAny (model progB w) ((callerA.deeper e2).deeper (envOf nm ⟨.function, nms, ig, ic, mo⟩ L a cd)) (call (.ref 238) []) Q E s := by
  k_with_none
  (k_with "kcf_all" => (first | exact sub_nil | exact fun _ hp => hp | (refine sub_cons ?_ ?_; (focus kcf_m); k_extra "kcf_all")))
  (k_with "ap" => ((repeat (first | ((with_reducible refine Ap.here ?_); k_mem; done) | ((with_reducible refine Ap.back ?_); k_mem; done) | (with_reducible refine Ap.there ?_))); done))
  (k_with "bf" => ((repeat (first | ((with_reducible refine Bf.here ?_); k_mem; done) | (with_reducible refine Bf.there ?_))); done))
  (k_with "ltn" => (first | with_reducible assumption | exact lt_nw (by with_reducible assumption) (by k_mem) | exact lt_nw2 (by with_reducible assumption) (by with_reducible assumption) (by k_mem) | (refine bf_lt (by with_reducible assumption) ?_; k_extra "bf") | omega))
  (k_with "cj" => ((rename (_ ∧ _ ∧ _) => hcj9); first | exact hcj9.1 | exact (hcj9.1).symm | exact hcj9.2.1 | exact (hcj9.2.1).symm | exact hcj9.2.2.1 | exact (hcj9.2.2.1).symm | exact hcj9.2.2.2.1 | exact (hcj9.2.2.2.1).symm | exact hcj9.2.2.2.2.1 | exact (hcj9.2.2.2.2.1).symm | exact hcj9.2.2.2.2.2.1 | exact (hcj9.2.2.2.2.2.1).symm | exact hcj9.2.2.2.2.2.2.1 | exact (hcj9.2.2.2.2.2.2.1).symm | exact hcj9.2.2.2.2.2.2.2.1 | exact (hcj9.2.2.2.2.2.2.2.1).symm | exact hcj9.2.2.2.2.2.2.2.2.1 | exact (hcj9.2.2.2.2.2.2.2.2.1).symm | exact hcj9.2.2.2.2.2.2.2.2.2.1 | exact (hcj9.2.2.2.2.2.2.2.2.2.1).symm | exact hcj9.2.2.2.2.2.2.2.2.2.2.1 | exact (hcj9.2.2.2.2.2.2.2.2.2.2.1).symm | exact hcj9.2.2.2.2.2.2.2.2.2.2.2.1 | exact (hcj9.2.2.2.2.2.2.2.2.2.2.2.1).symm | exact hcj9.2.2.2.2.2.2.2.2.2.2.2.2.1 | exact (hcj9.2.2.2.2.2.2.2.2.2.2.2.2.1).symm | exact hcj9.2.2.2.2.2.2.2.2.2.2.2.2.2.1 | exact (hcj9.2.2.2.2.2.2.2.2.2.2.2.2.2.1).symm | exact hcj9.2.2.2.2.2.2.2.2.2.2.2.2.2.2.1 | exact (hcj9.2.2.2.2.2.2.2.2.2.2.2.2.2.2.1).symm | exact hcj9.2.2.2.2.2.2.2.2.2.2.2.2.2.2.2.1 | exact (hcj9.2.2.2.2.2.2.2.2.2.2.2.2.2.2.2.1).symm | exact hcj9.2.2.2.2.2.2.2.2.2.2.2.2.2.2.2.2.1 | exact (hcj9.2.2.2.2.2.2.2.2.2.2.2.2.2.2.2.2.1).symm | exact hcj9.2.2.2.2.2.2.2.2.2.2.2.2.2.2.2.2.2.1 | exact (hcj9.2.2.2.2.2.2.2.2.2.2.2.2.2.2.2.2.2.1).symm | exact hcj9.2.2.2.2.2.2.2.2.2.2.2.2.2.2.2.2.2.2.1 | exact (hcj9.2.2.2.2.2.2.2.2.2.2.2.2.2.2.2.2.2.2.1).symm | exact hcj9.2.2.2.2.2.2.2.2.2.2.2.2.2.2.2.2.2.2.2.1 | exact (hcj9.2.2.2.2.2.2.2.2.2.2.2.2.2.2.2.2.2.2.2.1).symm | exact hcj9.2.2.2.2.2.2.2.2.2.2.2.2.2.2.2.2.2.2.2.2.1 | exact (hcj9.2.2.2.2.2.2.2.2.2.2.2.2.2.2.2.2.2.2.2.2.1).symm | exact hcj9.2.2.2.2.2.2.2.2.2.2.2.2.2.2.2.2.2.2.2.2.2.1 | exact (hcj9.2.2.2.2.2.2.2.2.2.2.2.2.2.2.2.2.2.2.2.2.2.1).symm | exact hcj9.2.2.2.2.2.2.2.2.2.2.2.2.2.2.2.2.2.2.2.2.2.2.1 | exact (hcj9.2.2.2.2.2.2.2.2.2.2.2.2.2.2.2.2.2.2.2.2.2.2.1).symm | exact hcj9.2.2.2.2.2.2.2.2.2.2.2.2.2.2.2.2.2.2.2.2.2.2.2.1 | exact (hcj9.2.2.2.2.2.2.2.2.2.2.2.2.2.2.2.2.2.2.2.2.2.2.2.1).symm | exact hcj9.2.2.2.2.2.2.2.2.2.2.2.2.2.2.2.2.2.2.2.2.2.2.2.2.1 | exact (hcj9.2.2.2.2.2.2.2.2.2.2.2.2.2.2.2.2.2.2.2.2.2.2.2.2.1).symm | exact hcj9.2.2.2.2.2.2.2.2.2.2.2.2.2.2.2.2.2.2.2.2.2.2.2.2.2.1 | exact (hcj9.2.2.2.2.2.2.2.2.2.2.2.2.2.2.2.2.2.2.2.2.2.2.2.2.2.1).symm))
  (k_with "k_ne" => ((show @Ne Nat _ _); (try dsimp only); first | with_reducible assumption | exact ne_nw (by with_reducible assumption) (by k_mem) | exact (ne_nw (by with_reducible assumption) (by k_mem)).symm | exact le1_ne (by with_reducible assumption) (by with_reducible assumption) (by k_mem) | exact (le1_ne (by with_reducible assumption) (by with_reducible assumption) (by k_mem)).symm | exact Nat.ne_of_lt (by with_reducible assumption) | exact Nat.ne_of_gt (by with_reducible assumption) | exact Ne.symm (by with_reducible assumption) | (refine ap_ne (by with_reducible assumption) ?_; k_extra "ap") | exact leE_ne (by with_reducible assumption) (by with_reducible assumption) (by k_mem) (by k_mem) | exact (leE_ne (by with_reducible assumption) (by with_reducible assumption) (by k_mem) (by k_mem)).symm | exact ne_nw2 (by with_reducible assumption) (by with_reducible assumption) (by k_mem) | exact (ne_nw2 (by with_reducible assumption) (by with_reducible assumption) (by k_mem)).symm | exact off1_ne (by with_reducible assumption) (by k_mem) | exact (off1_ne (by with_reducible assumption) (by k_mem)).symm | exact off3_I (by with_reducible assumption) (by k_mem) | exact (off3_I (by with_reducible assumption) (by k_mem)).symm | exact off3_C (by with_reducible assumption) (by k_mem) | exact (off3_C (by with_reducible assumption) (by k_mem)).symm | exact off3_D (by with_reducible assumption) (by k_mem) | exact (off3_D (by with_reducible assumption) (by k_mem)).symm | exact ne_nwS (by with_reducible assumption) (by k_mem) | exact (ne_nwS (by with_reducible assumption) (by k_mem)).symm | exact ne_nwT (by with_reducible assumption) (by k_mem) | exact (ne_nwT (by with_reducible assumption) (by k_mem)).symm | k_extra "cj" | omega))
  (k_with "k_in" => (first | with_reducible assumption | exact Frag.In.keeps (by with_reducible assumption) (Fr.keep (by with_reducible assumption))))
  (k_with "k_all" => (first | exact List.forall_mem_nil _ | (refine all_cons ?_ ?_; (focus k_ne); k_extra "k_all")))
  (k_with "eval Dict nil nil" => (k_here; k_dflt (refine newDict_K (by k_asm) (by k_asm) (TopRead.nolimit (by k_asm)) ?_); intro d' h' o' F' N' l1 lo' hs' fs' hi' fi'; (try k_lt l1); (try k_sweep)))
  have hf := fill w
  revert hf
  k_fill
  intro _
  k_steps
  refine' k ?z1 ?z2 ?z3 ?y1 ?y2 ?y3 ?z4 ?z5 ?z6 ?z7 ?z8
  (case z1 => with_reducible assumption)
  (case z2 => with_reducible assumption)
  (case y1 => with_reducible assumption)
  (case y2 => with_reducible assumption)
  (case y3 => with_reducible assumption)
  (case z4 => with_reducible assumption)
  (case z5 => first | with_reducible assumption | assumption)
  (case z7 => first | with_reducible assumption | assumption)
  (case z6 => first | with_reducible assumption | assumption)
  (case z8 => first | with_reducible assumption | assumption)
  (refine ⟨?_, ?_, ?_, ?_, ?_, ?_, ?_, ?_, ?_, ?_⟩ <;> k_extra "ltn")
end Mine
end
section
open PySem PySem.W PyProof.Rows PyProof.V
namespace Mine
theorem sep_add {tl X E : List (Addr × Obj)} (h : Sep [] tl X) : Sep E tl (X ++ E) := fun q hq p hp e => by
  rcases List.mem_append.mp hp with hp | hp
  · exact nomatch (h q hq p hp e)
  · exact hp
theorem sep_cons {tl X E : List (Addr × Obj)} {p : Addr × Obj} (h : Sep E tl (p :: X)) (hn : p ∉ E) : Sep [] tl [p] := fun q hq p' hp' e => by
  rcases List.mem_cons.mp hp' with rfl | hp'
  · exact absurd (h q hq _ (.head _) e) hn
  · exact nomatch hp'
theorem sep_join {tl X : List (Addr × Obj)} {p : Addr × Obj} (h : Sep [] tl [p]) (h' : Sep [] tl X) : Sep [] tl (p :: X) := fun q hq p' hp' e => by
  rcases List.mem_cons.mp hp' with rfl | hp'
  · exact h q hq _ (.head _) e
  · exact h' q hq p' hp' e
theorem sep_pick {tl X E : List (Addr × Obj)} {p : Addr × Obj} (h : Sep E tl X) (hp : p ∈ X) (hn : ∀ e ∈ E, @Ne Nat e.1 p.1) : Sep [] tl [p] := fun q hq p' hp' e => by
  rcases List.mem_cons.mp hp' with rfl | hp'
  · exact absurd rfl (hn _ (h q hq _ hp e))
  · exact nomatch hp'
theorem sep_tl {tl X : List (Addr × Obj)} {q : Addr × Obj} (h : Sep [] tl X) (hn : ∀ p ∈ X, @Ne Nat q.1 p.1) : Sep [] (q :: tl) X := fun q' hq p hp e => by
  rcases List.mem_cons.mp hq with rfl | hq
  · exact absurd e (hn p hp)
  · exact h q' hq p hp e
theorem sep_out {tl X led E : List (Addr × Obj)} (h : Sep E tl led) (hs : ∀ p ∈ X, p ∈ led) (hn : ∀ e ∈ E, ∀ p ∈ X, p.1 ≠ e.1) : Sep [] tl X := fun q hq p hp e => absurd rfl (hn p (h q hq p (hs p hp) e) p hp)
theorem off1_ne {D x : Addr} {o : Obj} : ∀ {l : List (Addr × Obj)}, LCg.Off1 D l → (x, o) ∈ l → @Ne Nat x D
  | [], _, h => nomatch h
  | _ :: _, h, hm => by
    rcases List.mem_cons.mp hm with rfl | hm
    · exact h.1
    · exact off1_ne h.2 hm
theorem off3_I {I C D x : Addr} {o : Obj} {l : List (Addr × Obj)} (h : LCg.Off3 I C D l) (hm : (x, o) ∈ l) : @Ne Nat x I := (LCg.Off3.mem h _ hm).1
theorem off3_C {I C D x : Addr} {o : Obj} {l : List (Addr × Obj)} (h : LCg.Off3 I C D l) (hm : (x, o) ∈ l) : @Ne Nat x C := (LCg.Off3.mem h _ hm).2.1
theorem off3_D {I C D x : Addr} {o : Obj} {l : List (Addr × Obj)} (h : LCg.Off3 I C D l) (hm : (x, o) ∈ l) : @Ne Nat x D := (LCg.Off3.mem h _ hm).2.2
/-- the reader's things and the rows' list: the explicit ledger of a call of row -/
abbrev rX (w : World) (t0 t1 t2 t3 t4 t5 t6 : Nat) (nm : Str) (c : Int) (u0 u1 u2 u3 u4 u5 : Nat) (b : Bool) (rd r nd nl li lo lc dn dd lO dp ra : Addr) (on od op oO oc oo oi oR : Obj) : List (Addr × Obj) :=
  [(dp, op), (lO, oO), (dd, od), (dn, on), (lc, oc), (lo, oo), (li, oi), (nl, instObj 127 nd), (nd, nlD w t0 t1 t2 t3 t4 t5 t6 nm c li lo lc), (r, instObj 238 rd), (rd, rdD w u0 u1 u2 u3 u4 u5 b nl dn dd lO dp), (ra, oR)]
theorem rX_le {w : World} {t0 t1 t2 t3 t4 t5 t6 u0 u1 u2 u3 u4 u5 : Nat} {nm : Str} {c : Int} {b : Bool} {rd r nd nl li lo lc dn dd lO dp ra : Addr} {on od op oO oc oo oi oR : Obj} (hl : Lts rd r nd nl li lo lc dn dd lO dp) (hra : @LT.lt Nat _ dp ra) :
    ∀ p ∈ rX w t0 t1 t2 t3 t4 t5 t6 nm c u0 u1 u2 u3 u4 u5 b rd r nd nl li lo lc dn dd lO dp ra on od op oO oc oo oi oR, @LE.le Nat _ p.1 ra := fun p hp => by
  simp only [List.mem_cons, List.not_mem_nil, or_false] at hp
  refine lts_le hl hra p.1 ?_
  rcases hp with rfl | rfl | rfl | rfl | rfl | rfl | rfl | rfl | rfl | rfl | rfl | rfl <;> (dsimp only; k_mem)
theorem sep_low2 {tl X led : List (Addr × Obj)} {p1 p2 : Addr × Obj} {ra : Addr} (h : Sep [p1, p2] tl led) (hs : ∀ p ∈ X, p ∈ led) (hle : ∀ p ∈ X, @LE.le Nat _ p.1 ra) (h1 : @LT.lt Nat _ ra p1.1) (h2 : @LT.lt Nat _ ra p2.1) : Sep [] tl X := by
  refine sep_out h hs fun e he p hp => ?_
  have := hle p hp
  rcases List.mem_cons.mp he with rfl | he
  · exact Nat.ne_of_lt (Nat.lt_of_le_of_lt this h1)
  rcases List.mem_cons.mp he with rfl | he
  · exact Nat.ne_of_lt (Nat.lt_of_le_of_lt this h2)
  · exact nomatch he
end Mine
end
section
open PySem PySem.W PyProof.Rows PyProof.V
namespace Mine
#guard_msgs (drop info, drop warning) in
set_option maxRecDepth 100000 in
set_option maxHeartbeats 1000000 in
theorem r0_spec {w : World} {e2 : Env} {nm : Str} {nms : List (Str × NameKind)} {ig ic : Bool} {mo : List (Str × Const)} {a : Addr} {cd : Value} {base h₀ : Heap} {L : Addr} {m mg mb : Str → Option Value} {mean : ExcName → Option Value} {E Q : Value → Shared → Prop} {s : Shared}
    {tl : List (Addr × Obj)} {t0 t1 t2 t3 t4 t5 t6 u0 u1 u2 u3 u4 u5 : Nat} {rd r nd nl li lo lc dn dd lO dp ra a0 w0 : Addr} {on od op oO oc oo oi : Obj} {rvs : List Value} {rn z0 n0 s0 s0' k0 z : Nat} {c : Int}
    (B : Below (callerA.deeper e2) base [e2] h₀) (F : Fr h₀ L s.heap m) (KX : (top.heap_1 w.params).In h₀)
    (N : News h₀ L s.heap (rX w t0 t1 t2 t3 t4 t5 t6 (Str.ofString "") c u0 u1 u2 u3 u4 u5 false rd r nd nl li lo lc dn dd lO dp ra on od op oO oc oo oi (listOf (.ref a0 :: rvs).toArray rn) ++ tl))
    {q9 : Program} {lo9 : List Str} (T : Top q9 lo9 mean mg mb h₀)
    (hl : Lts rd r nd nl li lo lc dn dd lO dp) (hra : @LT.lt Nat _ dp ra) (ha : @LT.lt Nat _ ra a0) (hw : @LT.lt Nat _ ra w0) (haw : @Ne Nat a0 w0)
    (hsep : Sep [] tl (rX w t0 t1 t2 t3 t4 t5 t6 (Str.ofString "") c u0 u1 u2 u3 u4 u5 false rd r nd nl li lo lc dn dd lO dp ra on od op oO oc oo oi (listOf (.ref a0 :: rvs).toArray rn)))
    (p0 : (a0, rowObj 0 z0 w0 n0) ∈ tl) (q0 : (w0, listOf [Value.str (Str.ofString ".model") s0, Value.str (Str.ofString "top") s0'].toArray k0) ∈ tl)
    (k : ∀ {h' : Heap} {tk' t0 t1 t2 t3 t4 t5 t6 u0 u1 u2 u3 u4 u5 z : Nat}, Fr h₀ L h' m →
      News h₀ L h' (rX w t0 t1 t2 t3 t4 t5 t6 (Str.ofString "top") c u0 u1 u2 u3 u4 u5 true rd r nd nl li lo lc dn dd lO dp ra on od op oO oc oo oi (listOf (.ref a0 :: rvs).toArray rn) ++ tl) →
      Sep [] tl (rX w t0 t1 t2 t3 t4 t5 t6 (Str.ofString "top") c u0 u1 u2 u3 u4 u5 true rd r nd nl li lo lc dn dd lO dp ra on od op oO oc oo oi (listOf (.ref a0 :: rvs).toArray rn)) →
      Q (.int 1 z) { s with heap := h', toks := tk' }) :
    wpAny (model progB w) ((callerA.deeper e2).deeper (envOf nm ⟨.function, nms, ig, ic, mo⟩ L a cd)) (call (.ref 230) [.ref r, .ref ra, .int 0 z]) Q E s := by
  k_with_none
  (k_with "kcf_all" => (first | exact sub_nil | exact fun _ hp => hp | (refine sub_cons ?_ ?_; (focus kcf_m); k_extra "kcf_all")))
  (k_with "ap" => ((repeat (first | ((with_reducible refine Ap.here ?_); k_mem; done) | ((with_reducible refine Ap.back ?_); k_mem; done) | (with_reducible refine Ap.there ?_))); done))
  (k_with "bf" => ((repeat (first | ((with_reducible refine Bf.here ?_); k_mem; done) | (with_reducible refine Bf.there ?_))); done))
  (k_with "ltn" => (first | with_reducible assumption | exact lt_nw (by with_reducible assumption) (by k_mem) | exact lt_nw2 (by with_reducible assumption) (by with_reducible assumption) (by k_mem) | (refine bf_lt (by with_reducible assumption) ?_; k_extra "bf") | omega))
  (k_with "cj" => ((rename (_ ∧ _ ∧ _) => hcj9); first | exact hcj9.1 | exact (hcj9.1).symm | exact hcj9.2.1 | exact (hcj9.2.1).symm | exact hcj9.2.2.1 | exact (hcj9.2.2.1).symm | exact hcj9.2.2.2.1 | exact (hcj9.2.2.2.1).symm | exact hcj9.2.2.2.2.1 | exact (hcj9.2.2.2.2.1).symm | exact hcj9.2.2.2.2.2.1 | exact (hcj9.2.2.2.2.2.1).symm | exact hcj9.2.2.2.2.2.2.1 | exact (hcj9.2.2.2.2.2.2.1).symm | exact hcj9.2.2.2.2.2.2.2.1 | exact (hcj9.2.2.2.2.2.2.2.1).symm | exact hcj9.2.2.2.2.2.2.2.2.1 | exact (hcj9.2.2.2.2.2.2.2.2.1).symm | exact hcj9.2.2.2.2.2.2.2.2.2.1 | exact (hcj9.2.2.2.2.2.2.2.2.2.1).symm | exact hcj9.2.2.2.2.2.2.2.2.2.2.1 | exact (hcj9.2.2.2.2.2.2.2.2.2.2.1).symm | exact hcj9.2.2.2.2.2.2.2.2.2.2.2.1 | exact (hcj9.2.2.2.2.2.2.2.2.2.2.2.1).symm | exact hcj9.2.2.2.2.2.2.2.2.2.2.2.2.1 | exact (hcj9.2.2.2.2.2.2.2.2.2.2.2.2.1).symm | exact hcj9.2.2.2.2.2.2.2.2.2.2.2.2.2.1 | exact (hcj9.2.2.2.2.2.2.2.2.2.2.2.2.2.1).symm | exact hcj9.2.2.2.2.2.2.2.2.2.2.2.2.2.2.1 | exact (hcj9.2.2.2.2.2.2.2.2.2.2.2.2.2.2.1).symm | exact hcj9.2.2.2.2.2.2.2.2.2.2.2.2.2.2.2.1 | exact (hcj9.2.2.2.2.2.2.2.2.2.2.2.2.2.2.2.1).symm | exact hcj9.2.2.2.2.2.2.2.2.2.2.2.2.2.2.2.2.1 | exact (hcj9.2.2.2.2.2.2.2.2.2.2.2.2.2.2.2.2.1).symm | exact hcj9.2.2.2.2.2.2.2.2.2.2.2.2.2.2.2.2.2.1 | exact (hcj9.2.2.2.2.2.2.2.2.2.2.2.2.2.2.2.2.2.1).symm | exact hcj9.2.2.2.2.2.2.2.2.2.2.2.2.2.2.2.2.2.2.1 | exact (hcj9.2.2.2.2.2.2.2.2.2.2.2.2.2.2.2.2.2.2.1).symm | exact hcj9.2.2.2.2.2.2.2.2.2.2.2.2.2.2.2.2.2.2.2.1 | exact (hcj9.2.2.2.2.2.2.2.2.2.2.2.2.2.2.2.2.2.2.2.1).symm | exact hcj9.2.2.2.2.2.2.2.2.2.2.2.2.2.2.2.2.2.2.2.2.1 | exact (hcj9.2.2.2.2.2.2.2.2.2.2.2.2.2.2.2.2.2.2.2.2.1).symm | exact hcj9.2.2.2.2.2.2.2.2.2.2.2.2.2.2.2.2.2.2.2.2.2.1 | exact (hcj9.2.2.2.2.2.2.2.2.2.2.2.2.2.2.2.2.2.2.2.2.2.1).symm | exact hcj9.2.2.2.2.2.2.2.2.2.2.2.2.2.2.2.2.2.2.2.2.2.2.1 | exact (hcj9.2.2.2.2.2.2.2.2.2.2.2.2.2.2.2.2.2.2.2.2.2.2.1).symm | exact hcj9.2.2.2.2.2.2.2.2.2.2.2.2.2.2.2.2.2.2.2.2.2.2.2.1 | exact (hcj9.2.2.2.2.2.2.2.2.2.2.2.2.2.2.2.2.2.2.2.2.2.2.2.1).symm | exact hcj9.2.2.2.2.2.2.2.2.2.2.2.2.2.2.2.2.2.2.2.2.2.2.2.2.1 | exact (hcj9.2.2.2.2.2.2.2.2.2.2.2.2.2.2.2.2.2.2.2.2.2.2.2.2.1).symm | exact hcj9.2.2.2.2.2.2.2.2.2.2.2.2.2.2.2.2.2.2.2.2.2.2.2.2.2.1 | exact (hcj9.2.2.2.2.2.2.2.2.2.2.2.2.2.2.2.2.2.2.2.2.2.2.2.2.2.1).symm))
  (k_with "k_ne" => ((show @Ne Nat _ _); (try dsimp only); first | with_reducible assumption | exact ne_nw (by with_reducible assumption) (by k_mem) | exact (ne_nw (by with_reducible assumption) (by k_mem)).symm | exact le1_ne (by with_reducible assumption) (by with_reducible assumption) (by k_mem) | exact (le1_ne (by with_reducible assumption) (by with_reducible assumption) (by k_mem)).symm | exact Nat.ne_of_lt (by with_reducible assumption) | exact Nat.ne_of_gt (by with_reducible assumption) | exact Ne.symm (by with_reducible assumption) | (refine ap_ne (by with_reducible assumption) ?_; k_extra "ap") | exact leE_ne (by with_reducible assumption) (by with_reducible assumption) (by k_mem) (by k_mem) | exact (leE_ne (by with_reducible assumption) (by with_reducible assumption) (by k_mem) (by k_mem)).symm | exact ne_nw2 (by with_reducible assumption) (by with_reducible assumption) (by k_mem) | exact (ne_nw2 (by with_reducible assumption) (by with_reducible assumption) (by k_mem)).symm | exact off1_ne (by with_reducible assumption) (by k_mem) | exact (off1_ne (by with_reducible assumption) (by k_mem)).symm | exact off3_I (by with_reducible assumption) (by k_mem) | exact (off3_I (by with_reducible assumption) (by k_mem)).symm | exact off3_C (by with_reducible assumption) (by k_mem) | exact (off3_C (by with_reducible assumption) (by k_mem)).symm | exact off3_D (by with_reducible assumption) (by k_mem) | exact (off3_D (by with_reducible assumption) (by k_mem)).symm | exact ne_nwS (by with_reducible assumption) (by k_mem) | exact (ne_nwS (by with_reducible assumption) (by k_mem)).symm | exact ne_nwT (by with_reducible assumption) (by k_mem) | exact (ne_nwT (by with_reducible assumption) (by k_mem)).symm | k_extra "cj" | omega))
  (k_with "k_in" => (first | with_reducible assumption | exact Frag.In.keeps (by with_reducible assumption) (Fr.keep (by with_reducible assumption))))
  (k_with "k_all" => (first | exact List.forall_mem_nil _ | (refine all_cons ?_ ?_; (focus k_ne); k_extra "k_all")))
  (k_with "call ref" => (k_here; (with_reducible show wpAny _ _ (call (Value.ref 230) _ _) _ _ _); k_dflt ((refine wpAny_call ?_); refine code_frameR (by exact rfl) (by exact rfl) (by exact rfl) (by k_asm) (by k_asm) (by k_asm) (by k_asm) (by k_asm) (by k_is) (by k_is) (by k_room) (by first | exact BindsTo.of_eq rfl | exact binds_K (by k_in) rfl (by k_is) rfl rfl rfl) (locs rfl) (by assumption) (by (repeat (first | exact Spl.base | apply Spl.cons))) ?_ (by exact rfl) (by exact rfl) (by exact rfl) (by decide); intro g' L' h' FG' F' N' B' X' T' l1 hT'; (try k_lt l1); (try dsimp only); (try k_lift B'); (try k_fold))))
  (k_with "RTail" => (k_dflt (refine tail_backR (by assumption) (by assumption) (by assumption) (by k_extra "kcf_all") ?_; intro kN2 hsep2; (try dsimp only [List.cons_append, List.nil_append] at kN2))))
  (k_with "eval Dict nil nil" => (k_here; k_dflt (refine newDict_K (by k_asm) (by k_asm) (TopRead.nolimit (by k_asm)) ?_); intro d' h' o' F' N' l1 lo' hs' fs' hi' fi'; (try k_lt l1); (try k_sweep)))
  (k_with "exec While Compare cons nil" => (k_here; k_dflt (refine whl_start 7 ?_)))
  (k_with "call builtin:len" => (k_here; (with_reducible show wpAny _ _ (call (Value.builtin "len") [Value.ref _]) _ _ _); k_dflt (refine lenR (by assumption) (by k_asm) (by k_memK) ?_)))
  (k_with "WhlIf" => (k_dflt (first | (refine WhlIf.yes (decide_eq_true (by omega)) ?_) | (refine WhlIf.no (decide_eq_false (by omega)) ?_))))
  (k_with "subscriptTail Name Constant ref int" => (k_here; (with_reducible show wpAny _ _ (subscriptTail _ _ (Value.ref _) (Value.int _ _)) _ _ _); k_dflt (first
      | (refine itemL (by k_asm) (by k_mem) (by decide) (by decide) (by rfl) ?_ (by with_unfolding_all rfl))
      | (refine itemT (by k_asm) (by k_mem) (by decide) (by decide) (by rfl) (by rfl) ?_ (by with_unfolding_all rfl)))))
  (k_with "subscriptTail Name Name ref int" => (k_here; (with_reducible show wpAny _ _ (subscriptTail _ _ (Value.ref _) (Value.int _ _)) _ _ _); k_dflt (first
      | (refine itemL (by k_asm) (by k_mem) (by decide) (by decide) (by rfl) ?_ (by with_unfolding_all rfl))
      | (refine itemT (by k_asm) (by k_mem) (by decide) (by decide) (by rfl) (by rfl) ?_ (by with_unfolding_all rfl)))))
  (k_with "subscriptTail Subscript Constant ref int" => (k_here; (with_reducible show wpAny _ _ (subscriptTail _ _ (Value.ref _) (Value.int _ _)) _ _ _); k_dflt (first
      | (refine itemL (by k_asm) (by k_mem) (by decide) (by decide) (by rfl) ?_ (by with_unfolding_all rfl))
      | (refine itemT (by k_asm) (by k_mem) (by decide) (by decide) (by rfl) (by rfl) ?_ (by with_unfolding_all rfl)))))
  (k_with "subscriptTail" => (k_here; (with_reducible show wpAny _ _ (subscriptTail _ _ (Value.ref _) (Value.int _ _)) _ _ _); k_dflt (first
      | (refine itemL (by k_asm) (by k_mem) (by decide) (by decide) (by rfl) ?_ (by with_unfolding_all rfl))
      | (refine itemT (by k_asm) (by k_mem) (by decide) (by decide) (by rfl) (by rfl) ?_ (by with_unfolding_all rfl)))))
  (k_with "exec For Tuple Call cons nil" => (k_here; (rename Fr _ _ _ _ => lF'); (with_unfolding_all refine' For_turns lF' ?_; k_whole)))
  (k_with "CompSrc" => (k_here; k_dflt (first
      | (refine LCg.CompSrc.ledger (by rfl) (by k_asm) (by k_asm) (by k_mem) (by first | size_fits | exact Nat.le_of_ble_eq_true rfl) ?_; intro g'; lcg_lit)
      | (refine LCg.CompSrc.base (by rfl) (by k_asm) (by k_asm) (by assumption) (by first | size_fits | exact Nat.le_of_ble_eq_true rfl) ?_; intro g'; lcg_lit)
      | (refine LCg.CompSrc.range (by rfl) (by k_asm) (by k_asm) (by assumption) (by first | decide | rfl) (by first | rfl | decide) (by first | size_fits | exact Nat.le_of_ble_eq_true rfl) ?_; intro g'; lcg_lit))))
  (k_with "callWith ref" => (k_here; (with_reducible show wpAny _ _ (callWith _ (Value.ref _) _ (backTo _ (starEach [] _)) []) _ _ _); k_dflt (refine callWith_K0 (by k_in) (by k_is) ?_)))
  (k_with "CompRest" => (with_unfolding_all first
      | (refine LCg.CompRest.succ ?_; intro v' I' oI' C' oC' D' m' h' tk' E' hv' hC' hx' F' N' off' ne'; (first | lcg_open hv' | (obtain ⟨t9', hv9'⟩ := hv'; subst hv9')))
      | refine LCg.CompRest.zero ?_))
  (k_with "FinE" => ((unfold LCg.FinE); intro D' h' tk' F' N' o1'; (try dsimp only [List.nil_append, List.cons_append] at N'); (try dsimp only)))
  (k_with "UnrEndW" => (k_dflt ktu_end))
  have hf := fill w
  revert hf
  k_fill
  intro _
  have hto : ∀ p ∈ tl, p.1 ≠ L ∧ h₀.get? p.1 = none := fun p hp => (N p (List.mem_append.mpr (.inr hp))).2
  have hsE := sep_add (E := [(a0, rowObj 0 z0 w0 n0), (w0, listOf [Value.str (Str.ofString ".model") s0, Value.str (Str.ofString "top") s0'].toArray k0)]) hsep
  have N2 := newsOf N (l' := rX w t0 t1 t2 t3 t4 t5 t6 (Str.ofString "") c u0 u1 u2 u3 u4 u5 false rd r nd nl li lo lc dn dd lO dp ra on od op oO oc oo oi (listOf (.ref a0 :: rvs).toArray rn) ++ ([(a0, rowObj 0 z0 w0 n0), (w0, listOf [Value.str (Str.ofString ".model") s0, Value.str (Str.ofString "top") s0'].toArray k0)] ++ tl)) (fun p hp => by
    rcases List.mem_append.mp hp with hp | hp
    · exact List.mem_append.mpr (.inl hp)
    rcases List.mem_append.mp hp with hp | hp
    · rcases List.mem_cons.mp hp with rfl | hp
      · exact List.mem_append.mpr (.inr p0)
      rcases List.mem_cons.mp hp with rfl | hp
      · exact List.mem_append.mpr (.inr q0)
      · exact nomatch hp
    · exact List.mem_append.mpr (.inr hp))
  dsimp only [rX, List.cons_append, List.nil_append] at N2 hsE
  clear N hsep
  have hl0 := hl
  have hbf := lts_pw hl hra
  have hle := lts_le hl hra
  k_steps
  dsimp only
  refine' k ?z1 ?z2 ?z3
  (case z1 => with_reducible assumption)
  (case z2 => refine newsOf (by assumption) ?_; (dsimp only [rX, List.cons_append, List.nil_append]; intro p hp; revert p; kcf_all))
  (case z3 => refine sep_out (by assumption) ?_ ?_; (dsimp only [rX, List.cons_append, List.nil_append]; kcf_all); (simp only [rX]; refine List.forall_mem_cons.mpr ⟨by k_all, List.forall_mem_cons.mpr ⟨by k_all, List.forall_mem_nil _⟩⟩))
end Mine
end
section
open PySem PySem.W PyProof.Rows PyProof.V
namespace Mine
#guard_msgs (drop info, drop warning) in
set_option maxRecDepth 100000 in
set_option maxHeartbeats 3000000 in
theorem r1_spec {w : World} {e2 : Env} {nm : Str} {nms : List (Str × NameKind)} {ig ic : Bool} {mo : List (Str × Const)} {a : Addr} {cd : Value} {base h₀ : Heap} {L : Addr} {m mg mb : Str → Option Value} {mean : ExcName → Option Value} {E Q : Value → Shared → Prop} {s : Shared}
    {tl : List (Addr × Obj)} {t0 t1 t2 t3 t4 t5 t6 u0 u1 u2 u3 u4 u5 : Nat} {rd r nd nl li lo lc dn dd lO dp ra a0 a1 w1 : Addr} {on od op oO oc oo : Obj} {rvs : List Value} {rn z1 n1 s1 s1' k1 z v0 v1 x0 x1 x2 : Nat} {c : Int}
    (B : Below (callerA.deeper e2) base [e2] h₀) (F : Fr h₀ L s.heap m) (KX : (top.heap_1 w.params).In h₀)
    (N : News h₀ L s.heap (rX w t0 t1 t2 t3 t4 t5 t6 (Str.ofString "top") 2 u0 u1 u2 u3 u4 u5 true rd r nd nl li lo lc dn dd lO dp ra on od op oO oc oo (listOf #[] x0) (listOf (.ref a0 :: .ref a1 :: rvs).toArray rn) ++ tl))
    {q9 : Program} {lo9 : List Str} (T : Top q9 lo9 mean mg mb h₀)
    (hl : Lts rd r nd nl li lo lc dn dd lO dp) (hra : @LT.lt Nat _ dp ra) (ha : @LT.lt Nat _ ra a1) (hw : @LT.lt Nat _ ra w1) (haw : @Ne Nat a1 w1)
    (hsep : Sep [] tl (rX w t0 t1 t2 t3 t4 t5 t6 (Str.ofString "top") 2 u0 u1 u2 u3 u4 u5 true rd r nd nl li lo lc dn dd lO dp ra on od op oO oc oo (listOf #[] x0) (listOf (.ref a0 :: .ref a1 :: rvs).toArray rn)))
    (p0 : (a1, rowObj 11 z1 w1 n1) ∈ tl) (q0 : (w1, listOf [Value.str (Str.ofString ".inputs") s1, Value.str (Str.ofString "x") s1'].toArray k1) ∈ tl)
    (mdn : (dn == sysModules) = false) (mdd : (dd == sysModules) = false) (don : on.IsDictOf (PySem.strKind progB w) [(FF, .int 0 v0), (TT, .int 1 v1)]) (fon : FlatPairs PyData.str [(FF, .int 0 v0), (TT, .int 1 v1)] [(.str FF, .int 0), (.str TT, .int 1)])
    (dod : od.IsDictOf (PySem.strKind progB w) [(FF, .bool true), (TT, .bool true)]) (fod : FlatPairs PyData.str [(FF, .bool true), (TT, .bool true)] [(.str FF, .bool true), (.str TT, .bool true)])
    (k : ∀ {h' : Heap} {tk' t0 t1 t2 t3 t4 t5 t6 u0 u1 u2 u3 u4 u5 z y0 y1 y2 y3 y4 v0 v1 v2 : Nat} {it il : Addr} {on od : Obj}, Fr h₀ L h' m →
      News h₀ L h' (rX w t0 t1 t2 t3 t4 t5 t6 (Str.ofString "top") 3 u0 u1 u2 u3 u4 u5 true rd r nd nl li lo lc dn dd lO dp ra on od op oO oc oo (listOf #[.ref it] y0) (listOf (.ref a0 :: .ref a1 :: rvs).toArray rn) ++
        (it, { cls := .type "tuple", data := .seq #[.str (Str.ofString "x") y1, .ref il] y2 }) :: (il, listOf #[.int 2 y3] y4) :: tl) →
      Sep [] tl (rX w t0 t1 t2 t3 t4 t5 t6 (Str.ofString "top") 3 u0 u1 u2 u3 u4 u5 true rd r nd nl li lo lc dn dd lO dp ra on od op oO oc oo (listOf #[.ref it] y0) (listOf (.ref a0 :: .ref a1 :: rvs).toArray rn)) →
      @LT.lt Nat _ ra it → @LT.lt Nat _ ra il →
      on.IsDictOf (PySem.strKind progB w) [(FF, .int 0 v0), (TT, .int 1 v1), (Str.ofString "x", .int 2 v2)] → FlatPairs PyData.str [(FF, .int 0 v0), (TT, .int 1 v1), (Str.ofString "x", .int 2 v2)] [(.str FF, .int 0), (.str TT, .int 1), (.str (Str.ofString "x"), .int 2)] →
      od.IsDictOf (PySem.strKind progB w) [(FF, .bool true), (TT, .bool true), (Str.ofString "x", .bool true)] → FlatPairs PyData.str [(FF, .bool true), (TT, .bool true), (Str.ofString "x", .bool true)] [(.str FF, .bool true), (.str TT, .bool true), (.str (Str.ofString "x"), .bool true)] →
      Q (.int 2 z) { s with heap := h', toks := tk' }) :
    wpAny (model progB w) ((callerA.deeper e2).deeper (envOf nm ⟨.function, nms, ig, ic, mo⟩ L a cd)) (call (.ref 230) [.ref r, .ref ra, .int 1 z]) Q E s := by
  k_with_none
  (k_with "kcf_all" => (first | exact sub_nil | exact fun _ hp => hp | (refine sub_cons ?_ ?_; (focus kcf_m); k_extra "kcf_all")))
  (k_with "ap" => ((repeat (first | ((with_reducible refine Ap.here ?_); k_mem; done) | ((with_reducible refine Ap.back ?_); k_mem; done) | (with_reducible refine Ap.there ?_))); done))
  (k_with "bf" => ((repeat (first | ((with_reducible refine Bf.here ?_); k_mem; done) | (with_reducible refine Bf.there ?_))); done))
  (k_with "ltn" => (first | with_reducible assumption | exact lt_nw (by with_reducible assumption) (by k_mem) | exact lt_nw2 (by with_reducible assumption) (by with_reducible assumption) (by k_mem) | (refine bf_lt (by with_reducible assumption) ?_; k_extra "bf") | omega))
  (k_with "cj" => ((rename (_ ∧ _ ∧ _) => hcj9); first | exact hcj9.1 | exact (hcj9.1).symm | exact hcj9.2.1 | exact (hcj9.2.1).symm | exact hcj9.2.2.1 | exact (hcj9.2.2.1).symm | exact hcj9.2.2.2.1 | exact (hcj9.2.2.2.1).symm | exact hcj9.2.2.2.2.1 | exact (hcj9.2.2.2.2.1).symm | exact hcj9.2.2.2.2.2.1 | exact (hcj9.2.2.2.2.2.1).symm | exact hcj9.2.2.2.2.2.2.1 | exact (hcj9.2.2.2.2.2.2.1).symm | exact hcj9.2.2.2.2.2.2.2.1 | exact (hcj9.2.2.2.2.2.2.2.1).symm | exact hcj9.2.2.2.2.2.2.2.2.1 | exact (hcj9.2.2.2.2.2.2.2.2.1).symm | exact hcj9.2.2.2.2.2.2.2.2.2.1 | exact (hcj9.2.2.2.2.2.2.2.2.2.1).symm | exact hcj9.2.2.2.2.2.2.2.2.2.2.1 | exact (hcj9.2.2.2.2.2.2.2.2.2.2.1).symm | exact hcj9.2.2.2.2.2.2.2.2.2.2.2.1 | exact (hcj9.2.2.2.2.2.2.2.2.2.2.2.1).symm | exact hcj9.2.2.2.2.2.2.2.2.2.2.2.2.1 | exact (hcj9.2.2.2.2.2.2.2.2.2.2.2.2.1).symm | exact hcj9.2.2.2.2.2.2.2.2.2.2.2.2.2.1 | exact (hcj9.2.2.2.2.2.2.2.2.2.2.2.2.2.1).symm | exact hcj9.2.2.2.2.2.2.2.2.2.2.2.2.2.2.1 | exact (hcj9.2.2.2.2.2.2.2.2.2.2.2.2.2.2.1).symm | exact hcj9.2.2.2.2.2.2.2.2.2.2.2.2.2.2.2.1 | exact (hcj9.2.2.2.2.2.2.2.2.2.2.2.2.2.2.2.1).symm | exact hcj9.2.2.2.2.2.2.2.2.2.2.2.2.2.2.2.2.1 | exact (hcj9.2.2.2.2.2.2.2.2.2.2.2.2.2.2.2.2.1).symm | exact hcj9.2.2.2.2.2.2.2.2.2.2.2.2.2.2.2.2.2.1 | exact (hcj9.2.2.2.2.2.2.2.2.2.2.2.2.2.2.2.2.2.1).symm | exact hcj9.2.2.2.2.2.2.2.2.2.2.2.2.2.2.2.2.2.2.1 | exact (hcj9.2.2.2.2.2.2.2.2.2.2.2.2.2.2.2.2.2.2.1).symm | exact hcj9.2.2.2.2.2.2.2.2.2.2.2.2.2.2.2.2.2.2.2.1 | exact (hcj9.2.2.2.2.2.2.2.2.2.2.2.2.2.2.2.2.2.2.2.1).symm | exact hcj9.2.2.2.2.2.2.2.2.2.2.2.2.2.2.2.2.2.2.2.2.1 | exact (hcj9.2.2.2.2.2.2.2.2.2.2.2.2.2.2.2.2.2.2.2.2.1).symm | exact hcj9.2.2.2.2.2.2.2.2.2.2.2.2.2.2.2.2.2.2.2.2.2.1 | exact (hcj9.2.2.2.2.2.2.2.2.2.2.2.2.2.2.2.2.2.2.2.2.2.1).symm | exact hcj9.2.2.2.2.2.2.2.2.2.2.2.2.2.2.2.2.2.2.2.2.2.2.1 | exact (hcj9.2.2.2.2.2.2.2.2.2.2.2.2.2.2.2.2.2.2.2.2.2.2.1).symm | exact hcj9.2.2.2.2.2.2.2.2.2.2.2.2.2.2.2.2.2.2.2.2.2.2.2.1 | exact (hcj9.2.2.2.2.2.2.2.2.2.2.2.2.2.2.2.2.2.2.2.2.2.2.2.1).symm | exact hcj9.2.2.2.2.2.2.2.2.2.2.2.2.2.2.2.2.2.2.2.2.2.2.2.2.1 | exact (hcj9.2.2.2.2.2.2.2.2.2.2.2.2.2.2.2.2.2.2.2.2.2.2.2.2.1).symm | exact hcj9.2.2.2.2.2.2.2.2.2.2.2.2.2.2.2.2.2.2.2.2.2.2.2.2.2.1 | exact (hcj9.2.2.2.2.2.2.2.2.2.2.2.2.2.2.2.2.2.2.2.2.2.2.2.2.2.1).symm))
  (k_with "k_ne" => ((show @Ne Nat _ _); (try dsimp only); first | with_reducible assumption | exact ne_nw (by with_reducible assumption) (by k_mem) | exact (ne_nw (by with_reducible assumption) (by k_mem)).symm | exact le1_ne (by with_reducible assumption) (by with_reducible assumption) (by k_mem) | exact (le1_ne (by with_reducible assumption) (by with_reducible assumption) (by k_mem)).symm | exact Nat.ne_of_lt (by with_reducible assumption) | exact Nat.ne_of_gt (by with_reducible assumption) | exact Ne.symm (by with_reducible assumption) | (refine ap_ne (by with_reducible assumption) ?_; k_extra "ap") | exact leE_ne (by with_reducible assumption) (by with_reducible assumption) (by k_mem) (by k_mem) | exact (leE_ne (by with_reducible assumption) (by with_reducible assumption) (by k_mem) (by k_mem)).symm | exact ne_nw2 (by with_reducible assumption) (by with_reducible assumption) (by k_mem) | exact (ne_nw2 (by with_reducible assumption) (by with_reducible assumption) (by k_mem)).symm | exact off1_ne (by with_reducible assumption) (by k_mem) | exact (off1_ne (by with_reducible assumption) (by k_mem)).symm | exact off3_I (by with_reducible assumption) (by k_mem) | exact (off3_I (by with_reducible assumption) (by k_mem)).symm | exact off3_C (by with_reducible assumption) (by k_mem) | exact (off3_C (by with_reducible assumption) (by k_mem)).symm | exact off3_D (by with_reducible assumption) (by k_mem) | exact (off3_D (by with_reducible assumption) (by k_mem)).symm | exact ne_nwS (by with_reducible assumption) (by k_mem) | exact (ne_nwS (by with_reducible assumption) (by k_mem)).symm | exact ne_nwT (by with_reducible assumption) (by k_mem) | exact (ne_nwT (by with_reducible assumption) (by k_mem)).symm | k_extra "cj" | omega))
  (k_with "k_in" => (first | with_reducible assumption | exact Frag.In.keeps (by with_reducible assumption) (Fr.keep (by with_reducible assumption))))
  (k_with "k_all" => (first | exact List.forall_mem_nil _ | (refine all_cons ?_ ?_; (focus k_ne); k_extra "k_all")))
  (k_with "call ref" => (k_here; (with_reducible show wpAny _ _ (call (Value.ref 230) _ _) _ _ _); k_dflt ((refine wpAny_call ?_); refine code_frameR (by exact rfl) (by exact rfl) (by exact rfl) (by k_asm) (by k_asm) (by k_asm) (by k_asm) (by k_asm) (by k_is) (by k_is) (by k_room) (by first | exact BindsTo.of_eq rfl | exact binds_K (by k_in) rfl (by k_is) rfl rfl rfl) (locs rfl) (by assumption) (by (repeat (first | exact Spl.base | apply Spl.cons))) ?_ (by exact rfl) (by exact rfl) (by exact rfl) (by decide); intro g' L' h' FG' F' N' B' X' T' l1 hT'; (try k_lt l1); (try dsimp only); (try k_lift B'); (try k_fold))))
  (k_with "RTail" => (k_dflt (refine tail_backR (by assumption) (by assumption) (by assumption) (by k_extra "kcf_all") ?_; intro kN2 hsep2; (try dsimp only [List.cons_append, List.nil_append] at kN2))))
  (k_with "eval Dict nil nil" => (k_here; k_dflt (refine newDict_K (by k_asm) (by k_asm) (TopRead.nolimit (by k_asm)) ?_); intro d' h' o' F' N' l1 lo' hs' fs' hi' fi'; (try k_lt l1); (try k_sweep)))
  (k_with "exec While Compare cons nil" => (k_here; k_dflt (refine whl_start 7 ?_)))
  (k_with "call builtin:len" => (k_here; (with_reducible show wpAny _ _ (call (Value.builtin "len") [Value.ref _]) _ _ _); k_dflt (refine lenR (by assumption) (by k_asm) (by k_memK) ?_)))
  (k_with "WhlIf" => (k_dflt (first | (refine WhlIf.yes (decide_eq_true (by omega)) ?_) | (refine WhlIf.no (decide_eq_false (by omega)) ?_))))
  (k_with "subscriptTail Name Constant ref int" => (k_here; (with_reducible show wpAny _ _ (subscriptTail _ _ (Value.ref _) (Value.int _ _)) _ _ _); k_dflt (first
      | (refine itemL (by k_asm) (by k_mem) (by decide) (by decide) (by rfl) ?_ (by with_unfolding_all rfl))
      | (refine itemT (by k_asm) (by k_mem) (by decide) (by decide) (by rfl) (by rfl) ?_ (by with_unfolding_all rfl)))))
  (k_with "subscriptTail Name Name ref int" => (k_here; (with_reducible show wpAny _ _ (subscriptTail _ _ (Value.ref _) (Value.int _ _)) _ _ _); k_dflt (first
      | (refine itemL (by k_asm) (by k_mem) (by decide) (by decide) (by rfl) ?_ (by with_unfolding_all rfl))
      | (refine itemT (by k_asm) (by k_mem) (by decide) (by decide) (by rfl) (by rfl) ?_ (by with_unfolding_all rfl)))))
  (k_with "subscriptTail Subscript Constant ref int" => (k_here; (with_reducible show wpAny _ _ (subscriptTail _ _ (Value.ref _) (Value.int _ _)) _ _ _); k_dflt (first
      | (refine itemL (by k_asm) (by k_mem) (by decide) (by decide) (by rfl) ?_ (by with_unfolding_all rfl))
      | (refine itemT (by k_asm) (by k_mem) (by decide) (by decide) (by rfl) (by rfl) ?_ (by with_unfolding_all rfl)))))
  (k_with "subscriptTail" => (k_here; (with_reducible show wpAny _ _ (subscriptTail _ _ (Value.ref _) (Value.int _ _)) _ _ _); k_dflt (first
      | (refine itemL (by k_asm) (by k_mem) (by decide) (by decide) (by rfl) ?_ (by with_unfolding_all rfl))
      | (refine itemT (by k_asm) (by k_mem) (by decide) (by decide) (by rfl) (by rfl) ?_ (by with_unfolding_all rfl)))))
  (k_with "exec For Tuple Call cons nil" => (k_here; (rename Fr _ _ _ _ => lF'); (with_unfolding_all refine' For_turns lF' ?_; k_whole)))
  (k_with "CompSrc" => (k_here; k_dflt (first
      | (refine LCg.CompSrc.ledger (by rfl) (by k_asm) (by k_asm) (by k_mem) (by first | size_fits | exact Nat.le_of_ble_eq_true rfl) ?_; intro g'; lcg_lit)
      | (refine LCg.CompSrc.base (by rfl) (by k_asm) (by k_asm) (by assumption) (by first | size_fits | exact Nat.le_of_ble_eq_true rfl) ?_; intro g'; lcg_lit)
      | (refine LCg.CompSrc.range (by rfl) (by k_asm) (by k_asm) (by assumption) (by first | decide | rfl) (by first | rfl | decide) (by first | size_fits | exact Nat.le_of_ble_eq_true rfl) ?_; intro g'; lcg_lit))))
  (k_with "callWith ref" => (k_here; (with_reducible show wpAny _ _ (callWith _ (Value.ref _) _ (backTo _ (starEach [] _)) []) _ _ _); k_dflt (refine callWith_K0 (by k_in) (by k_is) ?_)))
  (k_with "CompRest" => (with_unfolding_all first
      | (refine LCg.CompRest.succ ?_; intro v' I' oI' C' oC' D' m' h' tk' E' hv' hC' hx' F' N' off' ne'; (first | lcg_open hv' | (obtain ⟨t9', hv9'⟩ := hv'; subst hv9')))
      | refine LCg.CompRest.zero ?_))
  (k_with "FinE" => ((unfold LCg.FinE); intro D' h' tk' F' N' o1'; (try dsimp only [List.nil_append, List.cons_append] at N'); (try dsimp only)))
  (k_with "UnrEndW" => (k_dflt ktu_end))
  have hf := fill w
  revert hf
  k_fill
  intro _
  have hto : ∀ p ∈ tl, p.1 ≠ L ∧ h₀.get? p.1 = none := fun p hp => (N p (List.mem_append.mpr (.inr hp))).2
  have hsE := sep_add (E := [(a1, rowObj 11 z1 w1 n1), (w1, listOf [Value.str (Str.ofString ".inputs") s1, Value.str (Str.ofString "x") s1'].toArray k1)]) hsep
  have N2 := newsOf N (l' := rX w t0 t1 t2 t3 t4 t5 t6 (Str.ofString "top") 2 u0 u1 u2 u3 u4 u5 true rd r nd nl li lo lc dn dd lO dp ra on od op oO oc oo (listOf #[] x0) (listOf (.ref a0 :: .ref a1 :: rvs).toArray rn) ++ ([(a1, rowObj 11 z1 w1 n1), (w1, listOf [Value.str (Str.ofString ".inputs") s1, Value.str (Str.ofString "x") s1'].toArray k1)] ++ tl)) (fun p hp => by
    rcases List.mem_append.mp hp with hp | hp
    · exact List.mem_append.mpr (.inl hp)
    rcases List.mem_append.mp hp with hp | hp
    · rcases List.mem_cons.mp hp with rfl | hp
      · exact List.mem_append.mpr (.inr p0)
      rcases List.mem_cons.mp hp with rfl | hp
      · exact List.mem_append.mpr (.inr q0)
      · exact nomatch hp
    · exact List.mem_append.mpr (.inr hp))
  dsimp only [rX, List.cons_append, List.nil_append] at N2 hsE
  clear N hsep
  have hl0 := hl
  have hbf := lts_pw hl hra
  have hle := lts_le hl hra
  k_steps
  dsimp only
  (refine' k ?z1 ?z2 ?z3 ?z4 ?z5 ?z6 ?z7 ?z8 ?z9)
  (case z1 => with_reducible assumption)
  (case z2 => refine newsOf (by assumption) ?_; (dsimp only [rX, List.cons_append, List.nil_append]; intro p hp; revert p; kcf_all))
  (case z6 => first | with_reducible assumption | assumption)
  (case z7 => first | with_reducible assumption | assumption)
  (case z8 => first | with_reducible assumption | assumption)
  (case z9 => first | with_reducible assumption | assumption)
  (case z3 => refine sep_low2 (by assumption) ?_ (rX_le hl hra) ha hw; (dsimp only [rX, List.cons_append, List.nil_append]; kcf_all))
  (case z4 => k_extra "ltn")
  (case z5 => k_extra "ltn")
end Mine
end
section
open PySem PySem.W PyProof.Rows PyProof.V
namespace Mine
#guard_msgs (drop info, drop warning) in
set_option maxRecDepth 100000 in
set_option maxHeartbeats 3000000 in
theorem r2_spec {w : World} {e2 : Env} {nm : Str} {nms : List (Str × NameKind)} {ig ic : Bool} {mo : List (Str × Const)} {a : Addr} {cd : Value} {base h₀ : Heap} {L : Addr} {m mg mb : Str → Option Value} {mean : ExcName → Option Value} {E Q : Value → Shared → Prop} {s : Shared}
    {tl : List (Addr × Obj)} {t0 t1 t2 t3 t4 t5 t6 u0 u1 u2 u3 u4 u5 : Nat} {rd r nd nl li lo lc dn dd lO dp ra a0 a1 a2 w1 : Addr} {on od op oc oo oi : Obj} {rvs : List Value} {rn z1 n1 s1 s1' k1 z x0 : Nat}
    (B : Below (callerA.deeper e2) base [e2] h₀) (F : Fr h₀ L s.heap m) (KX : (top.heap_1 w.params).In h₀)
    (N : News h₀ L s.heap (rX w t0 t1 t2 t3 t4 t5 t6 (Str.ofString "top") 3 u0 u1 u2 u3 u4 u5 true rd r nd nl li lo lc dn dd lO dp ra on od op (listOf #[] x0) oc oo oi (listOf (.ref a0 :: .ref a1 :: .ref a2 :: rvs).toArray rn) ++ tl))
    {q9 : Program} {lo9 : List Str} (T : Top q9 lo9 mean mg mb h₀)
    (hl : Lts rd r nd nl li lo lc dn dd lO dp) (hra : @LT.lt Nat _ dp ra) (ha : @LT.lt Nat _ ra a2) (hw : @LT.lt Nat _ ra w1) (haw : @Ne Nat a2 w1)
    (hsep : Sep [] tl (rX w t0 t1 t2 t3 t4 t5 t6 (Str.ofString "top") 3 u0 u1 u2 u3 u4 u5 true rd r nd nl li lo lc dn dd lO dp ra on od op (listOf #[] x0) oc oo oi (listOf (.ref a0 :: .ref a1 :: .ref a2 :: rvs).toArray rn)))
    (p0 : (a2, rowObj 21 z1 w1 n1) ∈ tl) (q0 : (w1, listOf [Value.str (Str.ofString ".outputs") s1, Value.str (Str.ofString "y") s1'].toArray k1) ∈ tl)
    (mdp : (dp == sysModules) = false) (dop : op.IsDictOf (PySem.strKind progB w) [])
    (k : ∀ {h' : Heap} {tk' t0 t1 t2 t3 t4 t5 t6 u0 u1 u2 u3 u4 u5 z y0 y1 y2 y3 y4 v0 : Nat} {ot bl : Addr} {op : Obj}, Fr h₀ L h' m →
      News h₀ L h' (rX w t0 t1 t2 t3 t4 t5 t6 (Str.ofString "top") 3 u0 u1 u2 u3 u4 u5 true rd r nd nl li lo lc dn dd lO dp ra on od op (listOf #[.ref ot] y0) oc oo oi (listOf (.ref a0 :: .ref a1 :: .ref a2 :: rvs).toArray rn) ++
        (ot, { cls := .type "tuple", data := .seq #[.str (Str.ofString "y") y1, .ref bl] y2 }) :: (bl, listOf #[.str (Str.ofString "y") y3] y4) :: tl) →
      Sep [] tl (rX w t0 t1 t2 t3 t4 t5 t6 (Str.ofString "top") 3 u0 u1 u2 u3 u4 u5 true rd r nd nl li lo lc dn dd lO dp ra on od op (listOf #[.ref ot] y0) oc oo oi (listOf (.ref a0 :: .ref a1 :: .ref a2 :: rvs).toArray rn)) →
      @LT.lt Nat _ ra ot → @LT.lt Nat _ ra bl →
      op.IsDictOf (PySem.strKind progB w) [(Str.ofString "y", .int 21 v0)] → FlatPairs PyData.str [(Str.ofString "y", .int 21 v0)] [(.str (Str.ofString "y"), .int 21)] →
      Q (.int 3 z) { s with heap := h', toks := tk' }) :
    wpAny (model progB w) ((callerA.deeper e2).deeper (envOf nm ⟨.function, nms, ig, ic, mo⟩ L a cd)) (call (.ref 230) [.ref r, .ref ra, .int 2 z]) Q E s := by
  k_with_none
  (k_with "kcf_all" => (first | exact sub_nil | exact fun _ hp => hp | (refine sub_cons ?_ ?_; (focus kcf_m); k_extra "kcf_all")))
  (k_with "ap" => ((repeat (first | ((with_reducible refine Ap.here ?_); k_mem; done) | ((with_reducible refine Ap.back ?_); k_mem; done) | (with_reducible refine Ap.there ?_))); done))
  (k_with "bf" => ((repeat (first | ((with_reducible refine Bf.here ?_); k_mem; done) | (with_reducible refine Bf.there ?_))); done))
  (k_with "ltn" => (first | with_reducible assumption | exact lt_nw (by with_reducible assumption) (by k_mem) | exact lt_nw2 (by with_reducible assumption) (by with_reducible assumption) (by k_mem) | (refine bf_lt (by with_reducible assumption) ?_; k_extra "bf") | omega))
  (k_with "cj" => ((rename (_ ∧ _ ∧ _) => hcj9); first | exact hcj9.1 | exact (hcj9.1).symm | exact hcj9.2.1 | exact (hcj9.2.1).symm | exact hcj9.2.2.1 | exact (hcj9.2.2.1).symm | exact hcj9.2.2.2.1 | exact (hcj9.2.2.2.1).symm | exact hcj9.2.2.2.2.1 | exact (hcj9.2.2.2.2.1).symm | exact hcj9.2.2.2.2.2.1 | exact (hcj9.2.2.2.2.2.1).symm | exact hcj9.2.2.2.2.2.2.1 | exact (hcj9.2.2.2.2.2.2.1).symm | exact hcj9.2.2.2.2.2.2.2.1 | exact (hcj9.2.2.2.2.2.2.2.1).symm | exact hcj9.2.2.2.2.2.2.2.2.1 | exact (hcj9.2.2.2.2.2.2.2.2.1).symm | exact hcj9.2.2.2.2.2.2.2.2.2.1 | exact (hcj9.2.2.2.2.2.2.2.2.2.1).symm | exact hcj9.2.2.2.2.2.2.2.2.2.2.1 | exact (hcj9.2.2.2.2.2.2.2.2.2.2.1).symm | exact hcj9.2.2.2.2.2.2.2.2.2.2.2.1 | exact (hcj9.2.2.2.2.2.2.2.2.2.2.2.1).symm | exact hcj9.2.2.2.2.2.2.2.2.2.2.2.2.1 | exact (hcj9.2.2.2.2.2.2.2.2.2.2.2.2.1).symm | exact hcj9.2.2.2.2.2.2.2.2.2.2.2.2.2.1 | exact (hcj9.2.2.2.2.2.2.2.2.2.2.2.2.2.1).symm | exact hcj9.2.2.2.2.2.2.2.2.2.2.2.2.2.2.1 | exact (hcj9.2.2.2.2.2.2.2.2.2.2.2.2.2.2.1).symm | exact hcj9.2.2.2.2.2.2.2.2.2.2.2.2.2.2.2.1 | exact (hcj9.2.2.2.2.2.2.2.2.2.2.2.2.2.2.2.1).symm | exact hcj9.2.2.2.2.2.2.2.2.2.2.2.2.2.2.2.2.1 | exact (hcj9.2.2.2.2.2.2.2.2.2.2.2.2.2.2.2.2.1).symm | exact hcj9.2.2.2.2.2.2.2.2.2.2.2.2.2.2.2.2.2.1 | exact (hcj9.2.2.2.2.2.2.2.2.2.2.2.2.2.2.2.2.2.1).symm | exact hcj9.2.2.2.2.2.2.2.2.2.2.2.2.2.2.2.2.2.2.1 | exact (hcj9.2.2.2.2.2.2.2.2.2.2.2.2.2.2.2.2.2.2.1).symm | exact hcj9.2.2.2.2.2.2.2.2.2.2.2.2.2.2.2.2.2.2.2.1 | exact (hcj9.2.2.2.2.2.2.2.2.2.2.2.2.2.2.2.2.2.2.2.1).symm | exact hcj9.2.2.2.2.2.2.2.2.2.2.2.2.2.2.2.2.2.2.2.2.1 | exact (hcj9.2.2.2.2.2.2.2.2.2.2.2.2.2.2.2.2.2.2.2.2.1).symm | exact hcj9.2.2.2.2.2.2.2.2.2.2.2.2.2.2.2.2.2.2.2.2.2.1 | exact (hcj9.2.2.2.2.2.2.2.2.2.2.2.2.2.2.2.2.2.2.2.2.2.1).symm | exact hcj9.2.2.2.2.2.2.2.2.2.2.2.2.2.2.2.2.2.2.2.2.2.2.1 | exact (hcj9.2.2.2.2.2.2.2.2.2.2.2.2.2.2.2.2.2.2.2.2.2.2.1).symm | exact hcj9.2.2.2.2.2.2.2.2.2.2.2.2.2.2.2.2.2.2.2.2.2.2.2.1 | exact (hcj9.2.2.2.2.2.2.2.2.2.2.2.2.2.2.2.2.2.2.2.2.2.2.2.1).symm | exact hcj9.2.2.2.2.2.2.2.2.2.2.2.2.2.2.2.2.2.2.2.2.2.2.2.2.1 | exact (hcj9.2.2.2.2.2.2.2.2.2.2.2.2.2.2.2.2.2.2.2.2.2.2.2.2.1).symm | exact hcj9.2.2.2.2.2.2.2.2.2.2.2.2.2.2.2.2.2.2.2.2.2.2.2.2.2.1 | exact (hcj9.2.2.2.2.2.2.2.2.2.2.2.2.2.2.2.2.2.2.2.2.2.2.2.2.2.1).symm))
  (k_with "k_ne" => ((show @Ne Nat _ _); (try dsimp only); first | with_reducible assumption | exact ne_nw (by with_reducible assumption) (by k_mem) | exact (ne_nw (by with_reducible assumption) (by k_mem)).symm | exact le1_ne (by with_reducible assumption) (by with_reducible assumption) (by k_mem) | exact (le1_ne (by with_reducible assumption) (by with_reducible assumption) (by k_mem)).symm | exact Nat.ne_of_lt (by with_reducible assumption) | exact Nat.ne_of_gt (by with_reducible assumption) | exact Ne.symm (by with_reducible assumption) | (refine ap_ne (by with_reducible assumption) ?_; k_extra "ap") | exact leE_ne (by with_reducible assumption) (by with_reducible assumption) (by k_mem) (by k_mem) | exact (leE_ne (by with_reducible assumption) (by with_reducible assumption) (by k_mem) (by k_mem)).symm | exact ne_nw2 (by with_reducible assumption) (by with_reducible assumption) (by k_mem) | exact (ne_nw2 (by with_reducible assumption) (by with_reducible assumption) (by k_mem)).symm | exact off1_ne (by with_reducible assumption) (by k_mem) | exact (off1_ne (by with_reducible assumption) (by k_mem)).symm | exact off3_I (by with_reducible assumption) (by k_mem) | exact (off3_I (by with_reducible assumption) (by k_mem)).symm | exact off3_C (by with_reducible assumption) (by k_mem) | exact (off3_C (by with_reducible assumption) (by k_mem)).symm | exact off3_D (by with_reducible assumption) (by k_mem) | exact (off3_D (by with_reducible assumption) (by k_mem)).symm | exact ne_nwS (by with_reducible assumption) (by k_mem) | exact (ne_nwS (by with_reducible assumption) (by k_mem)).symm | exact ne_nwT (by with_reducible assumption) (by k_mem) | exact (ne_nwT (by with_reducible assumption) (by k_mem)).symm | k_extra "cj" | omega))
  (k_with "k_in" => (first | with_reducible assumption | exact Frag.In.keeps (by with_reducible assumption) (Fr.keep (by with_reducible assumption))))
  (k_with "k_all" => (first | exact List.forall_mem_nil _ | (refine all_cons ?_ ?_; (focus k_ne); k_extra "k_all")))
  (k_with "call ref" => (k_here; (with_reducible show wpAny _ _ (call (Value.ref 230) _ _) _ _ _); k_dflt ((refine wpAny_call ?_); refine code_frameR (by exact rfl) (by exact rfl) (by exact rfl) (by k_asm) (by k_asm) (by k_asm) (by k_asm) (by k_asm) (by k_is) (by k_is) (by k_room) (by first | exact BindsTo.of_eq rfl | exact binds_K (by k_in) rfl (by k_is) rfl rfl rfl) (locs rfl) (by assumption) (by (repeat (first | exact Spl.base | apply Spl.cons))) ?_ (by exact rfl) (by exact rfl) (by exact rfl) (by decide); intro g' L' h' FG' F' N' B' X' T' l1 hT'; (try k_lt l1); (try dsimp only); (try k_lift B'); (try k_fold))))
  (k_with "RTail" => (k_dflt (refine tail_backR (by assumption) (by assumption) (by assumption) (by k_extra "kcf_all") ?_; intro kN2 hsep2; (try dsimp only [List.cons_append, List.nil_append] at kN2))))
  (k_with "eval Dict nil nil" => (k_here; k_dflt (refine newDict_K (by k_asm) (by k_asm) (TopRead.nolimit (by k_asm)) ?_); intro d' h' o' F' N' l1 lo' hs' fs' hi' fi'; (try k_lt l1); (try k_sweep)))
  (k_with "exec While Compare cons nil" => (k_here; k_dflt (refine whl_start 7 ?_)))
  (k_with "call builtin:len" => (k_here; (with_reducible show wpAny _ _ (call (Value.builtin "len") [Value.ref _]) _ _ _); k_dflt (refine lenR (by assumption) (by k_asm) (by k_memK) ?_)))
  (k_with "WhlIf" => (k_dflt (first | (refine WhlIf.yes (decide_eq_true (by omega)) ?_) | (refine WhlIf.no (decide_eq_false (by omega)) ?_))))
  (k_with "subscriptTail Name Constant ref int" => (k_here; (with_reducible show wpAny _ _ (subscriptTail _ _ (Value.ref _) (Value.int _ _)) _ _ _); k_dflt (first
      | (refine itemL (by k_asm) (by k_mem) (by decide) (by decide) (by rfl) ?_ (by with_unfolding_all rfl))
      | (refine itemT (by k_asm) (by k_mem) (by decide) (by decide) (by rfl) (by rfl) ?_ (by with_unfolding_all rfl)))))
  (k_with "subscriptTail Name Name ref int" => (k_here; (with_reducible show wpAny _ _ (subscriptTail _ _ (Value.ref _) (Value.int _ _)) _ _ _); k_dflt (first
      | (refine itemL (by k_asm) (by k_mem) (by decide) (by decide) (by rfl) ?_ (by with_unfolding_all rfl))
      | (refine itemT (by k_asm) (by k_mem) (by decide) (by decide) (by rfl) (by rfl) ?_ (by with_unfolding_all rfl)))))
  (k_with "subscriptTail Subscript Constant ref int" => (k_here; (with_reducible show wpAny _ _ (subscriptTail _ _ (Value.ref _) (Value.int _ _)) _ _ _); k_dflt (first
      | (refine itemL (by k_asm) (by k_mem) (by decide) (by decide) (by rfl) ?_ (by with_unfolding_all rfl))
      | (refine itemT (by k_asm) (by k_mem) (by decide) (by decide) (by rfl) (by rfl) ?_ (by with_unfolding_all rfl)))))
  (k_with "subscriptTail" => (k_here; (with_reducible show wpAny _ _ (subscriptTail _ _ (Value.ref _) (Value.int _ _)) _ _ _); k_dflt (first
      | (refine itemL (by k_asm) (by k_mem) (by decide) (by decide) (by rfl) ?_ (by with_unfolding_all rfl))
      | (refine itemT (by k_asm) (by k_mem) (by decide) (by decide) (by rfl) (by rfl) ?_ (by with_unfolding_all rfl)))))
  (k_with "exec For Tuple Call cons nil" => (k_here; (rename Fr _ _ _ _ => lF'); (with_unfolding_all refine' For_turns lF' ?_; k_whole)))
  (k_with "CompSrc" => (k_here; k_dflt (first
      | (refine LCg.CompSrc.ledger (by rfl) (by k_asm) (by k_asm) (by k_mem) (by first | size_fits | exact Nat.le_of_ble_eq_true rfl) ?_; intro g'; lcg_lit)
      | (refine LCg.CompSrc.base (by rfl) (by k_asm) (by k_asm) (by assumption) (by first | size_fits | exact Nat.le_of_ble_eq_true rfl) ?_; intro g'; lcg_lit)
      | (refine LCg.CompSrc.range (by rfl) (by k_asm) (by k_asm) (by assumption) (by first | decide | rfl) (by first | rfl | decide) (by first | size_fits | exact Nat.le_of_ble_eq_true rfl) ?_; intro g'; lcg_lit))))
  (k_with "callWith ref" => (k_here; (with_reducible show wpAny _ _ (callWith _ (Value.ref _) _ (backTo _ (starEach [] _)) []) _ _ _); k_dflt (refine callWith_K0 (by k_in) (by k_is) ?_)))
  (k_with "CompRest" => (with_unfolding_all first
      | (refine LCg.CompRest.succ ?_; intro v' I' oI' C' oC' D' m' h' tk' E' hv' hC' hx' F' N' off' ne'; (first | lcg_open hv' | (obtain ⟨t9', hv9'⟩ := hv'; subst hv9')))
      | refine LCg.CompRest.zero ?_))
  (k_with "FinE" => ((unfold LCg.FinE); intro D' h' tk' F' N' o1'; (try dsimp only [List.nil_append, List.cons_append] at N'); (try dsimp only)))
  (k_with "UnrEndW" => (k_dflt ktu_end))
  have hf := fill w
  revert hf
  k_fill
  intro _
  have fop : FlatPairs PyData.str [] [] := by first | exact .nil | exact trivial | constructor
  have hto : ∀ p ∈ tl, p.1 ≠ L ∧ h₀.get? p.1 = none := fun p hp => (N p (List.mem_append.mpr (.inr hp))).2
  have hsE := sep_add (E := [(a2, rowObj 21 z1 w1 n1), (w1, listOf [Value.str (Str.ofString ".outputs") s1, Value.str (Str.ofString "y") s1'].toArray k1)]) hsep
  have N2 := newsOf N (l' := rX w t0 t1 t2 t3 t4 t5 t6 (Str.ofString "top") 3 u0 u1 u2 u3 u4 u5 true rd r nd nl li lo lc dn dd lO dp ra on od op (listOf #[] x0) oc oo oi (listOf (.ref a0 :: .ref a1 :: .ref a2 :: rvs).toArray rn) ++ ([(a2, rowObj 21 z1 w1 n1), (w1, listOf [Value.str (Str.ofString ".outputs") s1, Value.str (Str.ofString "y") s1'].toArray k1)] ++ tl)) (fun p hp => by
    rcases List.mem_append.mp hp with hp | hp
    · exact List.mem_append.mpr (.inl hp)
    rcases List.mem_append.mp hp with hp | hp
    · rcases List.mem_cons.mp hp with rfl | hp
      · exact List.mem_append.mpr (.inr p0)
      rcases List.mem_cons.mp hp with rfl | hp
      · exact List.mem_append.mpr (.inr q0)
      · exact nomatch hp
    · exact List.mem_append.mpr (.inr hp))
  dsimp only [rX, List.cons_append, List.nil_append] at N2 hsE
  clear N hsep
  have hl0 := hl
  have hbf := lts_pw hl hra
  have hle := lts_le hl hra
  k_steps
  dsimp only
  (refine' k ?z1 ?z2 ?z3 ?z4 ?z5 ?z6 ?z7)
  (case z1 => with_reducible assumption)
  (case z2 => refine newsOf (by assumption) ?_; (dsimp only [rX, List.cons_append, List.nil_append]; intro p hp; revert p; kcf_all))
  (case z6 => first | with_reducible assumption | assumption)
  (case z7 => first | with_reducible assumption | assumption)
  (case z3 => refine sep_low2 (by assumption) ?_ (rX_le hl hra) ha hw; (dsimp only [rX, List.cons_append, List.nil_append]; kcf_all))
  (case z4 => k_extra "ltn")
  (case z5 => k_extra "ltn")
end Mine
end
section
open PySem PySem.W PyProof.Rows PyProof.V
namespace Mine
theorem pick45 {v0 v1 v2 v3 v4 : Value} {vs : List Value} : (slicePick (v0 :: v1 :: v2 :: v3 :: v4 :: vs).toArray (some 4) (some 5) none).toList = [v4] := by
  have e : sliceBounds (some 4) (some 5) none (v0 :: v1 :: v2 :: v3 :: v4 :: vs).toArray.size = (((4 : Nat) : Int), ((5 : Nat) : Int), 1) := by
    simp only [sliceBounds, Option.getD_none, show (1 : Int) > 0 by decide, if_true, List.size_toArray, List.length_cons, if_neg (show ¬ ((4 : Int) < 0) by omega), if_neg (show ¬ ((5 : Int) < 0) by omega)]
    congr 1
    · omega
    · congr 1
      omega
  rw [kmk_pick_nat _ e]
  rfl
section
variable {prog : Program} {w : World} {A : Around} {E : Value → Shared → Prop} {s : Shared} {env : Env} {h₀ : Heap} {body : List Stmt} {Q : Flow → Shared → Prop} {x : Str} {px : Pos}
theorem iter_range1 {r : Addr} {a b : Int} {t₀ u₀ v₀ : Tok} {m₀ : Str → Option Value} {news : List (Addr × Obj)}
    (hh : A.handled = none) (hr : IsRange s.heap r a b 1 t₀ u₀ v₀) (ha : a = 0) (hb : b = 1) (F : Fr h₀ env.locals s.heap m₀) (N : News h₀ env.locals s.heap news)
    (rest₀ : ∀ I : Addr, (∀ p ∈ news, p.1 < I) → ItemsRest prog w A E h₀ env (.Name x px) body Q s [(I, "range_iterator")] [] [.tok fun t => .int 0 t] m₀ news) :
    wpAny (model prog w) A (pyIter (.ref r)) (fun it s₂ => TurnsAt prog w A h₀ env (.Name x px) body Q E it s₂) E s := by
  subst ha hb
  refine wpAny_pyIter_range hr (by rfl) ?_
  refine ktu_core (tk0 := s.toks) (keep := []) (KTurns.ofWalks ((Walks.range hh s.heap.objs.size 0 1 1).bound) fun i v s Q E st q => wpAny_pure q) (by simp) (fun i v h hp => ⟨.tok fun t => .int 0 t, ?_, ?_⟩) (fun i h st => ?_) (fun b hb => ?_) (fun b hb => by simpa using hb) (fun b hb => ?_) ?_ (fun p hp hI => ?_) ?_ (F.push _) (fun p hp => ⟨Heap.get?_push_of_some _ (N p hp).1, (N p hp).2⟩) trivial (rest₀ _ fun p hp => Heap.lt_size (N p hp).1)
  · have hi : i = 0 := by have := hp.1; omega
    subst hi
    rfl
  · obtain ⟨hi, t, e⟩ := hp
    have hi : i = 0 := by omega
    subst hi
    exact ⟨t, e⟩
  · exact ⟨[(s.heap.objs.size, _)], ⟨⟨rfl, rfl⟩, trivial⟩, fun p hp => by rw [List.mem_singleton.mp hp]; exact st⟩
  · have hb' : b = s.heap.objs.size := by simpa using hb
    rw [hb']
    exact ⟨List.mem_cons_self .., next_is_new F⟩
  · have hb' : b = s.heap.objs.size := by simpa using hb
    exact .inl (by simp [hb'])
  · intro hI
    exact absurd F.ns.lt ((List.mem_singleton.mp hI) ▸ Nat.lt_irrefl _)
  · exact absurd (Heap.lt_size (N p hp).1) ((List.mem_singleton.mp hI) ▸ Nat.lt_irrefl _)
  · show IsRangeIter _ _ _ _ _
    have e : Builtin.Range.rangeSize 0 1 1 = 1 := by decide
    rw [e]
    exact Heap.get?_push_size _ rfl
theorem item0_lit {value slice : Expr} {t u : Tok} {Q : Value → Shared → Prop} (h : Q (.str (Str.ofString "0") s.toks) { s with toks := s.toks + 1 })
    (hs : subscripted slice false (.str (Str.ofString "0") t) (.int 0 u) = operate [.str (Str.ofString "0") t, .int 0 u] (getItem (.str (Str.ofString "0") t) (.int 0 u)) := by with_unfolding_all rfl)
    (ht : ∀ r, letTemporaryGo value (.str (Str.ofString "0") t) r = pure () := by intro _; with_unfolding_all rfl) :
    wpAny (model prog w) A (subscriptTail value slice (.str (Str.ofString "0") t) (.int 0 u)) Q E s := by
  have e : Txt.item (Str.ofString "0") 0 = Str.ofString "0" := by decide +kernel
  have h1 : (Str.ofString "0").length = 1 := by decide +kernel
  refine item_str (by decide) (by omega) (by omega) (fun _ => ?_) hs ht
  rw [e]
  exact h
end
end Mine
end
section
open PySem PySem.W PyProof.Rows PyProof.V
namespace Mine
theorem stays_refl (g : Heap) : g.StaysIn g := fun _ _ e => e
theorem cast_int {i j : Int} {t : Tok} {s : Shared} {Q : Value → Shared → Prop} (e : i = j) (h : Q (.int j t) s) : Q (.int i t) s := by rw [e]; exact h
#guard_msgs (drop info, drop warning) in
set_option maxRecDepth 100000 in
set_option maxHeartbeats 4000000 in
theorem ct_spec {w : World} {e1 e2 e3 en : Env} {base h₀ : Heap} {L : Addr} {m mg mb : Str → Option Value} {mean : ExcName → Option Value} {E Q : Value → Shared → Prop} {s : Shared} {news : List (Addr × Obj)}
    {cv a4 w4 : Addr} {z4 n4 s4 s4' k4 cn t1 : Nat} {i1 : Int}
    (B : Below (((callerA.deeper e1).deeper e2).deeper e3) base [e3, e2, e1] h₀) (hA : ((((callerA.deeper e1).deeper e2).deeper e3).deeper en).frames = some [en, e3, e2, e1]) (hf : en.frame = some L) (hke : en.scope.kind = .function) (F : Fr h₀ L s.heap m) (KX : (top.heap_1 w.params).In h₀) (N : News h₀ L s.heap news)
    {q9 : Program} {lo9 : List Str} (T : Top q9 lo9 mean mg mb h₀) (hi1 : i1 = 1)
    (m0 : (cv, listOf [Value.ref a4].toArray cn) ∈ news) (m1 : (a4, rowObj 43 z4 w4 n4) ∈ news) (m2 : (w4, listOf [Value.str (Str.ofString "0") s4, Value.str (Str.ofString "1") s4'].toArray k4) ∈ news)
    (n1 : @Ne Nat cv a4) (n2 : @Ne Nat cv w4) (n3 : @Ne Nat a4 w4)
    (k : ∀ {h' : Heap} {tk' t : Nat}, Fr h₀ L h' m → News h₀ L h' news → Q (.int 1 t) { s with heap := h', toks := tk' }) :
    wpAny (model progB w) ((((callerA.deeper e1).deeper e2).deeper e3).deeper en) (call (.ref 171) [.ref cv, .int i1 t1]) Q E s := by
  k_with_none
  (k_with "kcf_all" => (first | exact sub_nil | exact fun _ hp => hp | (refine sub_cons ?_ ?_; (focus kcf_m); k_extra "kcf_all")))
  (k_with "ap" => ((repeat (first | ((with_reducible refine Ap.here ?_); k_mem; done) | ((with_reducible refine Ap.back ?_); k_mem; done) | (with_reducible refine Ap.there ?_))); done))
  (k_with "bf" => ((repeat (first | ((with_reducible refine Bf.here ?_); k_mem; done) | (with_reducible refine Bf.there ?_))); done))
  (k_with "ltn" => (first | with_reducible assumption | exact lt_nw (by with_reducible assumption) (by k_mem) | exact lt_nw2 (by with_reducible assumption) (by with_reducible assumption) (by k_mem) | (refine bf_lt (by with_reducible assumption) ?_; k_extra "bf") | omega))
  (k_with "cj" => ((rename (_ ∧ _ ∧ _) => hcj9); first | exact hcj9.1 | exact (hcj9.1).symm | exact hcj9.2.1 | exact (hcj9.2.1).symm | exact hcj9.2.2.1 | exact (hcj9.2.2.1).symm | exact hcj9.2.2.2.1 | exact (hcj9.2.2.2.1).symm | exact hcj9.2.2.2.2.1 | exact (hcj9.2.2.2.2.1).symm | exact hcj9.2.2.2.2.2.1 | exact (hcj9.2.2.2.2.2.1).symm | exact hcj9.2.2.2.2.2.2.1 | exact (hcj9.2.2.2.2.2.2.1).symm | exact hcj9.2.2.2.2.2.2.2.1 | exact (hcj9.2.2.2.2.2.2.2.1).symm | exact hcj9.2.2.2.2.2.2.2.2.1 | exact (hcj9.2.2.2.2.2.2.2.2.1).symm | exact hcj9.2.2.2.2.2.2.2.2.2.1 | exact (hcj9.2.2.2.2.2.2.2.2.2.1).symm | exact hcj9.2.2.2.2.2.2.2.2.2.2.1 | exact (hcj9.2.2.2.2.2.2.2.2.2.2.1).symm | exact hcj9.2.2.2.2.2.2.2.2.2.2.2.1 | exact (hcj9.2.2.2.2.2.2.2.2.2.2.2.1).symm | exact hcj9.2.2.2.2.2.2.2.2.2.2.2.2.1 | exact (hcj9.2.2.2.2.2.2.2.2.2.2.2.2.1).symm | exact hcj9.2.2.2.2.2.2.2.2.2.2.2.2.2.1 | exact (hcj9.2.2.2.2.2.2.2.2.2.2.2.2.2.1).symm | exact hcj9.2.2.2.2.2.2.2.2.2.2.2.2.2.2.1 | exact (hcj9.2.2.2.2.2.2.2.2.2.2.2.2.2.2.1).symm | exact hcj9.2.2.2.2.2.2.2.2.2.2.2.2.2.2.2.1 | exact (hcj9.2.2.2.2.2.2.2.2.2.2.2.2.2.2.2.1).symm | exact hcj9.2.2.2.2.2.2.2.2.2.2.2.2.2.2.2.2.1 | exact (hcj9.2.2.2.2.2.2.2.2.2.2.2.2.2.2.2.2.1).symm | exact hcj9.2.2.2.2.2.2.2.2.2.2.2.2.2.2.2.2.2.1 | exact (hcj9.2.2.2.2.2.2.2.2.2.2.2.2.2.2.2.2.2.1).symm | exact hcj9.2.2.2.2.2.2.2.2.2.2.2.2.2.2.2.2.2.2.1 | exact (hcj9.2.2.2.2.2.2.2.2.2.2.2.2.2.2.2.2.2.2.1).symm | exact hcj9.2.2.2.2.2.2.2.2.2.2.2.2.2.2.2.2.2.2.2.1 | exact (hcj9.2.2.2.2.2.2.2.2.2.2.2.2.2.2.2.2.2.2.2.1).symm | exact hcj9.2.2.2.2.2.2.2.2.2.2.2.2.2.2.2.2.2.2.2.2.1 | exact (hcj9.2.2.2.2.2.2.2.2.2.2.2.2.2.2.2.2.2.2.2.2.1).symm | exact hcj9.2.2.2.2.2.2.2.2.2.2.2.2.2.2.2.2.2.2.2.2.2.1 | exact (hcj9.2.2.2.2.2.2.2.2.2.2.2.2.2.2.2.2.2.2.2.2.2.1).symm | exact hcj9.2.2.2.2.2.2.2.2.2.2.2.2.2.2.2.2.2.2.2.2.2.2.1 | exact (hcj9.2.2.2.2.2.2.2.2.2.2.2.2.2.2.2.2.2.2.2.2.2.2.1).symm | exact hcj9.2.2.2.2.2.2.2.2.2.2.2.2.2.2.2.2.2.2.2.2.2.2.2.1 | exact (hcj9.2.2.2.2.2.2.2.2.2.2.2.2.2.2.2.2.2.2.2.2.2.2.2.1).symm | exact hcj9.2.2.2.2.2.2.2.2.2.2.2.2.2.2.2.2.2.2.2.2.2.2.2.2.1 | exact (hcj9.2.2.2.2.2.2.2.2.2.2.2.2.2.2.2.2.2.2.2.2.2.2.2.2.1).symm | exact hcj9.2.2.2.2.2.2.2.2.2.2.2.2.2.2.2.2.2.2.2.2.2.2.2.2.2.1 | exact (hcj9.2.2.2.2.2.2.2.2.2.2.2.2.2.2.2.2.2.2.2.2.2.2.2.2.2.1).symm))
  (k_with "k_ne" => ((show @Ne Nat _ _); (try dsimp only); first | with_reducible assumption | exact ne_nw (by with_reducible assumption) (by k_mem) | exact (ne_nw (by with_reducible assumption) (by k_mem)).symm | exact le1_ne (by with_reducible assumption) (by with_reducible assumption) (by k_mem) | exact (le1_ne (by with_reducible assumption) (by with_reducible assumption) (by k_mem)).symm | exact Nat.ne_of_lt (by with_reducible assumption) | exact Nat.ne_of_gt (by with_reducible assumption) | exact Ne.symm (by with_reducible assumption) | (refine ap_ne (by with_reducible assumption) ?_; k_extra "ap") | exact leE_ne (by with_reducible assumption) (by with_reducible assumption) (by k_mem) (by k_mem) | exact (leE_ne (by with_reducible assumption) (by with_reducible assumption) (by k_mem) (by k_mem)).symm | exact ne_nw2 (by with_reducible assumption) (by with_reducible assumption) (by k_mem) | exact (ne_nw2 (by with_reducible assumption) (by with_reducible assumption) (by k_mem)).symm | exact off1_ne (by with_reducible assumption) (by k_mem) | exact (off1_ne (by with_reducible assumption) (by k_mem)).symm | exact off3_I (by with_reducible assumption) (by k_mem) | exact (off3_I (by with_reducible assumption) (by k_mem)).symm | exact off3_C (by with_reducible assumption) (by k_mem) | exact (off3_C (by with_reducible assumption) (by k_mem)).symm | exact off3_D (by with_reducible assumption) (by k_mem) | exact (off3_D (by with_reducible assumption) (by k_mem)).symm | exact ne_nwS (by with_reducible assumption) (by k_mem) | exact (ne_nwS (by with_reducible assumption) (by k_mem)).symm | exact ne_nwT (by with_reducible assumption) (by k_mem) | exact (ne_nwT (by with_reducible assumption) (by k_mem)).symm | k_extra "cj" | omega))
  (k_with "k_in" => (first | with_reducible assumption | exact Frag.In.keeps (by with_reducible assumption) (Fr.keep (by with_reducible assumption))))
  (k_with "k_all" => (first | exact List.forall_mem_nil _ | (refine all_cons ?_ ?_; (focus k_ne); k_extra "k_all")))
  (k_with "call ref" => (k_here; (with_reducible show wpAny _ _ (call (Value.ref 230) _ _) _ _ _); k_dflt ((refine wpAny_call ?_); refine code_frameR (by exact rfl) (by exact rfl) (by exact rfl) (by k_asm) (by k_asm) (by k_asm) (by k_asm) (by k_asm) (by k_is) (by k_is) (by k_room) (by first | exact BindsTo.of_eq rfl | exact binds_K (by k_in) rfl (by k_is) rfl rfl rfl) (locs rfl) (by assumption) (by (repeat (first | exact Spl.base | apply Spl.cons))) ?_ (by exact rfl) (by exact rfl) (by exact rfl) (by decide); intro g' L' h' FG' F' N' B' X' T' l1 hT'; (try k_lt l1); (try dsimp only); (try k_lift B'); (try k_fold))))
  (k_with "RTail" => (k_dflt (refine tail_backR (by assumption) (by assumption) (by assumption) (by k_extra "kcf_all") ?_; intro kN2 hsep2; (try dsimp only [List.cons_append, List.nil_append] at kN2))))
  (k_with "eval Dict nil nil" => (k_here; k_dflt (refine newDict_K (by k_asm) (by k_asm) (TopRead.nolimit (by k_asm)) ?_); intro d' h' o' F' N' l1 lo' hs' fs' hi' fi'; (try k_lt l1); (try k_sweep)))
  (k_with "exec While Compare cons nil" => (k_here; k_dflt (refine whl_start 7 ?_)))
  (k_with "call builtin:len" => (k_here; (with_reducible show wpAny _ _ (call (Value.builtin "len") [Value.ref _]) _ _ _); k_dflt (refine lenR (by assumption) (by k_asm) (by k_memK) ?_)))
  (k_with "WhlIf" => (k_dflt (first | (refine WhlIf.yes (decide_eq_true (by omega)) ?_) | (refine WhlIf.no (decide_eq_false (by omega)) ?_))))
  (k_with "subscriptTail Name Constant ref int" => (k_here; (with_reducible show wpAny _ _ (subscriptTail _ _ (Value.ref _) (Value.int _ _)) _ _ _); k_dflt (first
      | (refine itemL (by k_asm) (by k_mem) (by decide) (by decide) (by rfl) ?_ (by with_unfolding_all rfl))
      | (refine itemT (by k_asm) (by k_mem) (by decide) (by decide) (by rfl) (by rfl) ?_ (by with_unfolding_all rfl)))))
  (k_with "subscriptTail Name Name ref int" => (k_here; (with_reducible show wpAny _ _ (subscriptTail _ _ (Value.ref _) (Value.int _ _)) _ _ _); k_dflt (first
      | (refine itemL (by k_asm) (by k_mem) (by decide) (by decide) (by rfl) ?_ (by with_unfolding_all rfl))
      | (refine itemT (by k_asm) (by k_mem) (by decide) (by decide) (by rfl) (by rfl) ?_ (by with_unfolding_all rfl)))))
  (k_with "subscriptTail Subscript Constant ref int" => (k_here; (with_reducible show wpAny _ _ (subscriptTail _ _ (Value.ref _) (Value.int _ _)) _ _ _); k_dflt (first
      | (refine itemL (by k_asm) (by k_mem) (by decide) (by decide) (by rfl) ?_ (by with_unfolding_all rfl))
      | (refine itemT (by k_asm) (by k_mem) (by decide) (by decide) (by rfl) (by rfl) ?_ (by with_unfolding_all rfl)))))
  (k_with "subscriptTail" => (k_here; (with_reducible show wpAny _ _ (subscriptTail _ _ (Value.ref _) (Value.int _ _)) _ _ _); k_dflt (first
      | (refine itemL (by k_asm) (by k_mem) (by decide) (by decide) (by rfl) ?_ (by with_unfolding_all rfl))
      | (refine itemT (by k_asm) (by k_mem) (by decide) (by decide) (by rfl) (by rfl) ?_ (by with_unfolding_all rfl)))))
  (k_with "exec For Tuple Call cons nil" => (k_here; (rename Fr _ _ _ _ => lF'); (with_unfolding_all refine' For_turns lF' ?_; k_whole)))
  (k_with "CompSrc" => (k_here; k_dflt (first
      | (refine LCg.CompSrc.ledger (by rfl) (by k_asm) (by k_asm) (by k_mem) (by first | size_fits | exact Nat.le_of_ble_eq_true rfl) ?_; intro g'; lcg_lit)
      | (refine LCg.CompSrc.base (by rfl) (by k_asm) (by k_asm) (by assumption) (by first | size_fits | exact Nat.le_of_ble_eq_true rfl) ?_; intro g'; lcg_lit)
      | (refine LCg.CompSrc.range (by rfl) (by k_asm) (by k_asm) (by assumption) (by first | decide | rfl) (by first | rfl | decide) (by first | size_fits | exact Nat.le_of_ble_eq_true rfl) ?_; intro g'; lcg_lit))))
  (k_with "callWith ref" => (k_here; (with_reducible show wpAny _ _ (callWith _ (Value.ref _) _ (backTo _ (starEach [] _)) []) _ _ _); k_dflt (refine callWith_K0 (by k_in) (by k_is) ?_)))
  (k_with "CompRest" => (with_unfolding_all first
      | (refine LCg.CompRest.succ ?_; intro v' I' oI' C' oC' D' m' h' tk' E' hv' hC' hx' F' N' off' ne'; (first | lcg_open hv' | (obtain ⟨t9', hv9'⟩ := hv'; subst hv9')))
      | refine LCg.CompRest.zero ?_))
  (k_with "FinE" => ((unfold LCg.FinE); intro D' h' tk' F' N' o1'; (try dsimp only [List.nil_append, List.cons_append] at N'); (try dsimp only)))
  (k_with "UnrEndW" => (k_dflt ktu_end))
  (k_with "subscriptTail Name Slice ref ref" => (k_here; (with_reducible show wpAny _ _ (subscriptTail _ (PySem.Expr.Slice (some _) (some _) none _) (Value.ref _) (Value.ref _)) _ _ _); k_dflt (refine kmk_slice_lit (by k_asm) (by k_asm) (by exact News.isList (by k_asm) (by k_mem)) (by kmk_part) (by kmk_part) (by exact pick45) ?_ (by with_unfolding_all rfl) (by kmk_pure) (by (simp only [List.size_toArray, List.length_cons]; exact room24 (by omega)))); intro D' h' F' N' l1; (try k_lt l1); (try k_sweep)))
  (k_with "exec While BoolOp cons nil" => (k_here; k_dflt (refine whl_start 7 ?_)))
  (k_with "exec For Name Call cons nil" => (k_here; (with_reducible show wpAny _ _ (exec (Stmt.For (Expr.Name (PySem.Str.ofString "place") _) _ _ _ _) _) _ _ _); (rename Fr _ _ _ _ => lF'); (with_unfolding_all refine' For_turns lF' ?_; k_whole)))
  (k_with "pyIter ref" => (k_here; (with_reducible show wpAny _ _ (pyIter (Value.ref _)) (fun it s₂ => TurnsAt _ _ _ _ _ (Expr.Name (PySem.Str.ofString "place") _) _ _ _ it s₂) _ _); k_dflt (refine iter_range1 (by rfl) (by assumption) (by rfl) (by rfl) (by k_asm) (by k_asm) ?_); intro I' l1; (try k_lt l1)))
  (k_with "exec For Name Name cons nil" => (k_here; (with_reducible show wpAny _ _ (exec (Stmt.For (Expr.Name (PySem.Str.ofString "number") _) _ _ _ _) _) _ _ _); (rename Fr _ _ _ _ => lF'); (with_unfolding_all refine' For_turns lF' ?_; k_whole)))
  (k_with "subscriptTail Name Name str int" => (k_here; (with_reducible show wpAny _ _ (subscriptTail _ _ (Value.str (PySem.Str.ofString "0") _) (Value.int _ _)) _ _ _); k_dflt (refine item0_lit ?_)))
  (k_with "ite" => (k_closed; k_dflt (first | refine ite_pos (by decide +kernel) ?_ | refine ite_neg (by decide +kernel) ?_)))
  subst hi1
  have hf' := fill w
  revert hf'
  k_fill
  intro _
  have hto : ∀ p ∈ news, p.1 ≠ L ∧ h₀.get? p.1 = none := fun p hp => (N p hp).2
  have N2 : News h₀ L s.heap ((cv, listOf [Value.ref a4].toArray cn) :: (a4, rowObj 43 z4 w4 n4) :: (w4, listOf [Value.str (Str.ofString "0") s4, Value.str (Str.ofString "1") s4'].toArray k4) :: news) := newsOf N fun p hp => by
    rcases List.mem_cons.mp hp with rfl | hp
    · exact m0
    rcases List.mem_cons.mp hp with rfl | hp
    · exact m1
    rcases List.mem_cons.mp hp with rfl | hp
    · exact m2
    exact hp
  refine wpAny_call ?_
  refine' code_frame (E := [(cv, listOf [Value.ref a4].toArray cn), (a4, rowObj 43 z4 w4 n4), (w4, listOf [Value.str (Str.ofString "0") s4, Value.str (Str.ofString "1") s4'].toArray k4)]) (X := [(cv, listOf [Value.ref a4].toArray cn), (a4, rowObj 43 z4 w4 n4), (w4, listOf [Value.str (Str.ofString "0") s4, Value.str (Str.ofString "1") s4'].toArray k4)]) (tl := news) B F KX N2 T hA hf hke ?k6 ?k7 ?k8 ?k9 ?kB (.cons (.cons (.cons .base))) (sep_in (.head _) (sep_in (.tail _ (.head _)) (sep_in (.tail _ (.tail _ (.head _))) sep_nil))) ?_ ?c2 ?c3 ?c4 ?c5
  (case k6 => k_is); (case k7 => k_is); (case k8 => k_room); (case k9 => first | exact BindsTo.of_eq rfl | exact binds_K (by k_in) rfl (by k_is) rfl rfl rfl); (case c5 => decide); (case kB => exact locs rfl); (case c2 => exact rfl); (case c3 => exact rfl); (case c4 => exact rfl)
  intro g' L' h' FG' F' N' B' X' T' l1 hT'
  k_lt l1
  clear m0 m1 m2 N N2
  (try dsimp only); (try k_fold)
  k_steps
  dsimp only
  refine cast_int (j := 1) (by decide +kernel) (k ?z1 ?z2)
  (case z1 => with_reducible assumption)
  (case z2 => refine newsOf (by assumption) ?_; intro p hp; simp only [List.mem_cons, List.mem_append, List.cons_append, List.nil_append]; simp only [hp, or_true])
end Mine
end
section
open PySem PySem.W PyProof.Rows PyProof.V
namespace Mine
theorem sep_lowE {tl X led E : List (Addr × Obj)} {ra : Addr} (h : Sep E tl led) (hs : ∀ p ∈ X, p ∈ led) (hle : ∀ p ∈ X, @LE.le Nat _ p.1 ra) (hE : ∀ e ∈ E, @LT.lt Nat _ ra e.1) : Sep [] tl X :=
  sep_out h hs fun e he p hp => Nat.ne_of_lt (Nat.lt_of_le_of_lt (hle p hp) (hE e he))
#guard_msgs (drop info, drop warning) in
set_option maxRecDepth 100000 in
set_option maxHeartbeats 12000000 in
theorem r3_spec {w : World} {e2 : Env} {nm : Str} {nms : List (Str × NameKind)} {ig ic : Bool} {mo : List (Str × Const)} {a : Addr} {cd : Value} {base h₀ : Heap} {L : Addr} {m mg mb : Str → Option Value} {mean : ExcName → Option Value} {E Q : Value → Shared → Prop} {s : Shared}
    {tl : List (Addr × Obj)} {t0 t1 t2 t3 t4 t5 t6 u0 u1 u2 u3 u4 u5 : Nat} {rd r nd nl li lo lc dn dd lO dp ra a0 a1 a2 a3 a4 a5 w3 w4 w5 : Addr} {on od op oi oO oo : Obj} {rvs : List Value} {rn z3 z4 z5 n3 n4 n5 s3 s3' s3'' s4 s4' s5 k3 k4 k5 z x0 v0 v1 v2 : Nat}
    (B : Below (callerA.deeper e2) base [e2] h₀) (F : Fr h₀ L s.heap m) (KX : (top.heap_1 w.params).In h₀) (hlen : rvs.length ≤ 4001)
    (N : News h₀ L s.heap (rX w t0 t1 t2 t3 t4 t5 t6 (Str.ofString "top") 3 u0 u1 u2 u3 u4 u5 true rd r nd nl li lo lc dn dd lO dp ra on od op oO (listOf #[] x0) oo oi (listOf (.ref a0 :: .ref a1 :: .ref a2 :: .ref a3 :: .ref a4 :: .ref a5 :: rvs).toArray rn) ++ tl))
    {q9 : Program} {lo9 : List Str} (T : Top q9 lo9 mean mg mb h₀)
    (hl : Lts rd r nd nl li lo lc dn dd lO dp) (hra : @LT.lt Nat _ dp ra)
    (hsep : Sep [] tl (rX w t0 t1 t2 t3 t4 t5 t6 (Str.ofString "top") 3 u0 u1 u2 u3 u4 u5 true rd r nd nl li lo lc dn dd lO dp ra on od op oO (listOf #[] x0) oo oi (listOf (.ref a0 :: .ref a1 :: .ref a2 :: .ref a3 :: .ref a4 :: .ref a5 :: rvs).toArray rn)))
    {E6 : List (Addr × Obj)} (hE6 : E6 = [(a3, rowObj 32 z3 w3 n3), (w3, listOf [Value.str (Str.ofString ".names") s3, Value.str (Str.ofString "x") s3', Value.str (Str.ofString "y") s3''].toArray k3), (a4, rowObj 43 z4 w4 n4), (w4, listOf [Value.str (Str.ofString "0") s4, Value.str (Str.ofString "1") s4'].toArray k4), (a5, rowObj 47 z5 w5 n5), (w5, listOf [Value.str (Str.ofString ".end") s5].toArray k5)])
    (pE : ∀ p ∈ E6, p ∈ tl) (hE : ∀ e ∈ E6, @LT.lt Nat _ ra e.1) (d34 : @Ne Nat a4 w4)
    (mdn : (dn == sysModules) = false) (mdd : (dd == sysModules) = false) (don : on.IsDictOf (PySem.strKind progB w) [(FF, .int 0 v0), (TT, .int 1 v1), (Str.ofString "x", .int 2 v2)]) (fon : FlatPairs PyData.str [(FF, .int 0 v0), (TT, .int 1 v1), (Str.ofString "x", .int 2 v2)] [(.str FF, .int 0), (.str TT, .int 1), (.str (Str.ofString "x"), .int 2)])
    (dod : od.IsDictOf (PySem.strKind progB w) [(FF, .bool true), (TT, .bool true), (Str.ofString "x", .bool true)]) (fod : FlatPairs PyData.str [(FF, .bool true), (TT, .bool true), (Str.ofString "x", .bool true)] [(.str FF, .bool true), (.str TT, .bool true), (.str (Str.ofString "x"), .bool true)])
    (k : ∀ {h' : Heap} {tk' t0 t1 t2 t3 t4 t5 t6 u0 u1 u2 u3 u4 u5 z y0 y1 y2 y3 y4 y5 y6 v0 v1 v2 v3 : Nat} {ct it : Addr} {on od : Obj}, Fr h₀ L h' m →
      News h₀ L h' (rX w t0 t1 t2 t3 t4 t5 t6 (Str.ofString "top") 4 u0 u1 u2 u3 u4 u5 true rd r nd nl li lo lc dn dd lO dp ra on od op oO (listOf #[.ref ct] y0) oo oi (listOf (.ref a0 :: .ref a1 :: .ref a2 :: .ref a3 :: .ref a4 :: .ref a5 :: rvs).toArray rn) ++
        (ct, { cls := .type "tuple", data := .seq #[.str (Str.ofString "lut") y1, .int 3 y2, .ref it, .int 1 y3] y4 }) :: (it, { cls := .type "tuple", data := .seq #[.int 2 y5] y6 }) :: tl) →
      Sep [] tl (rX w t0 t1 t2 t3 t4 t5 t6 (Str.ofString "top") 4 u0 u1 u2 u3 u4 u5 true rd r nd nl li lo lc dn dd lO dp ra on od op oO (listOf #[.ref ct] y0) oo oi (listOf (.ref a0 :: .ref a1 :: .ref a2 :: .ref a3 :: .ref a4 :: .ref a5 :: rvs).toArray rn)) →
      @LT.lt Nat _ ra ct → @LT.lt Nat _ ra it →
      on.IsDictOf (PySem.strKind progB w) [(FF, .int 0 v0), (TT, .int 1 v1), (Str.ofString "x", .int 2 v2), (Str.ofString "y", .int 3 v3)] → FlatPairs PyData.str [(FF, .int 0 v0), (TT, .int 1 v1), (Str.ofString "x", .int 2 v2), (Str.ofString "y", .int 3 v3)] [(.str FF, .int 0), (.str TT, .int 1), (.str (Str.ofString "x"), .int 2), (.str (Str.ofString "y"), .int 3)] →
      od.IsDictOf (PySem.strKind progB w) [(FF, .bool true), (TT, .bool true), (Str.ofString "x", .bool true), (Str.ofString "y", .bool true)] → FlatPairs PyData.str [(FF, .bool true), (TT, .bool true), (Str.ofString "x", .bool true), (Str.ofString "y", .bool true)] [(.str FF, .bool true), (.str TT, .bool true), (.str (Str.ofString "x"), .bool true), (.str (Str.ofString "y"), .bool true)] →
      Q (.int 5 z) { s with heap := h', toks := tk' }) :
    wpAny (model progB w) ((callerA.deeper e2).deeper (envOf nm ⟨.function, nms, ig, ic, mo⟩ L a cd)) (call (.ref 230) [.ref r, .ref ra, .int 3 z]) Q E s := by
  k_with_none
  (k_with "kcf_all" => (first | exact sub_nil | exact fun _ hp => hp | (refine sub_cons ?_ ?_; (focus kcf_m); k_extra "kcf_all")))
  (k_with "ap" => ((repeat (first | ((with_reducible refine Ap.here ?_); k_mem; done) | ((with_reducible refine Ap.back ?_); k_mem; done) | (with_reducible refine Ap.there ?_))); done))
  (k_with "bf" => ((repeat (first | ((with_reducible refine Bf.here ?_); k_mem; done) | (with_reducible refine Bf.there ?_))); done))
  (k_with "ltn" => (first | with_reducible assumption | exact lt_nw (by with_reducible assumption) (by k_mem) | exact lt_nw2 (by with_reducible assumption) (by with_reducible assumption) (by k_mem) | (refine bf_lt (by with_reducible assumption) ?_; k_extra "bf") | omega))
  (k_with "cj" => ((rename (_ ∧ _ ∧ _) => hcj9); first | exact hcj9.1 | exact (hcj9.1).symm | exact hcj9.2.1 | exact (hcj9.2.1).symm | exact hcj9.2.2.1 | exact (hcj9.2.2.1).symm | exact hcj9.2.2.2.1 | exact (hcj9.2.2.2.1).symm | exact hcj9.2.2.2.2.1 | exact (hcj9.2.2.2.2.1).symm | exact hcj9.2.2.2.2.2.1 | exact (hcj9.2.2.2.2.2.1).symm | exact hcj9.2.2.2.2.2.2.1 | exact (hcj9.2.2.2.2.2.2.1).symm | exact hcj9.2.2.2.2.2.2.2.1 | exact (hcj9.2.2.2.2.2.2.2.1).symm | exact hcj9.2.2.2.2.2.2.2.2.1 | exact (hcj9.2.2.2.2.2.2.2.2.1).symm | exact hcj9.2.2.2.2.2.2.2.2.2.1 | exact (hcj9.2.2.2.2.2.2.2.2.2.1).symm | exact hcj9.2.2.2.2.2.2.2.2.2.2.1 | exact (hcj9.2.2.2.2.2.2.2.2.2.2.1).symm | exact hcj9.2.2.2.2.2.2.2.2.2.2.2.1 | exact (hcj9.2.2.2.2.2.2.2.2.2.2.2.1).symm | exact hcj9.2.2.2.2.2.2.2.2.2.2.2.2.1 | exact (hcj9.2.2.2.2.2.2.2.2.2.2.2.2.1).symm | exact hcj9.2.2.2.2.2.2.2.2.2.2.2.2.2.1 | exact (hcj9.2.2.2.2.2.2.2.2.2.2.2.2.2.1).symm | exact hcj9.2.2.2.2.2.2.2.2.2.2.2.2.2.2.1 | exact (hcj9.2.2.2.2.2.2.2.2.2.2.2.2.2.2.1).symm | exact hcj9.2.2.2.2.2.2.2.2.2.2.2.2.2.2.2.1 | exact (hcj9.2.2.2.2.2.2.2.2.2.2.2.2.2.2.2.1).symm | exact hcj9.2.2.2.2.2.2.2.2.2.2.2.2.2.2.2.2.1 | exact (hcj9.2.2.2.2.2.2.2.2.2.2.2.2.2.2.2.2.1).symm | exact hcj9.2.2.2.2.2.2.2.2.2.2.2.2.2.2.2.2.2.1 | exact (hcj9.2.2.2.2.2.2.2.2.2.2.2.2.2.2.2.2.2.1).symm | exact hcj9.2.2.2.2.2.2.2.2.2.2.2.2.2.2.2.2.2.2.1 | exact (hcj9.2.2.2.2.2.2.2.2.2.2.2.2.2.2.2.2.2.2.1).symm | exact hcj9.2.2.2.2.2.2.2.2.2.2.2.2.2.2.2.2.2.2.2.1 | exact (hcj9.2.2.2.2.2.2.2.2.2.2.2.2.2.2.2.2.2.2.2.1).symm | exact hcj9.2.2.2.2.2.2.2.2.2.2.2.2.2.2.2.2.2.2.2.2.1 | exact (hcj9.2.2.2.2.2.2.2.2.2.2.2.2.2.2.2.2.2.2.2.2.1).symm | exact hcj9.2.2.2.2.2.2.2.2.2.2.2.2.2.2.2.2.2.2.2.2.2.1 | exact (hcj9.2.2.2.2.2.2.2.2.2.2.2.2.2.2.2.2.2.2.2.2.2.1).symm | exact hcj9.2.2.2.2.2.2.2.2.2.2.2.2.2.2.2.2.2.2.2.2.2.2.1 | exact (hcj9.2.2.2.2.2.2.2.2.2.2.2.2.2.2.2.2.2.2.2.2.2.2.1).symm | exact hcj9.2.2.2.2.2.2.2.2.2.2.2.2.2.2.2.2.2.2.2.2.2.2.2.1 | exact (hcj9.2.2.2.2.2.2.2.2.2.2.2.2.2.2.2.2.2.2.2.2.2.2.2.1).symm | exact hcj9.2.2.2.2.2.2.2.2.2.2.2.2.2.2.2.2.2.2.2.2.2.2.2.2.1 | exact (hcj9.2.2.2.2.2.2.2.2.2.2.2.2.2.2.2.2.2.2.2.2.2.2.2.2.1).symm | exact hcj9.2.2.2.2.2.2.2.2.2.2.2.2.2.2.2.2.2.2.2.2.2.2.2.2.2.1 | exact (hcj9.2.2.2.2.2.2.2.2.2.2.2.2.2.2.2.2.2.2.2.2.2.2.2.2.2.1).symm))
  (k_with "k_ne" => ((show @Ne Nat _ _); (try dsimp only); first | with_reducible assumption | exact ne_nw (by with_reducible assumption) (by k_mem) | exact (ne_nw (by with_reducible assumption) (by k_mem)).symm | exact le1_ne (by with_reducible assumption) (by with_reducible assumption) (by k_mem) | exact (le1_ne (by with_reducible assumption) (by with_reducible assumption) (by k_mem)).symm | exact Nat.ne_of_lt (by with_reducible assumption) | exact Nat.ne_of_gt (by with_reducible assumption) | exact Ne.symm (by with_reducible assumption) | (refine ap_ne (by with_reducible assumption) ?_; k_extra "ap") | exact leE_ne (by with_reducible assumption) (by with_reducible assumption) (by k_mem) (by k_mem) | exact (leE_ne (by with_reducible assumption) (by with_reducible assumption) (by k_mem) (by k_mem)).symm | exact ne_nw2 (by with_reducible assumption) (by with_reducible assumption) (by k_mem) | exact (ne_nw2 (by with_reducible assumption) (by with_reducible assumption) (by k_mem)).symm | exact off1_ne (by with_reducible assumption) (by k_mem) | exact (off1_ne (by with_reducible assumption) (by k_mem)).symm | exact off3_I (by with_reducible assumption) (by k_mem) | exact (off3_I (by with_reducible assumption) (by k_mem)).symm | exact off3_C (by with_reducible assumption) (by k_mem) | exact (off3_C (by with_reducible assumption) (by k_mem)).symm | exact off3_D (by with_reducible assumption) (by k_mem) | exact (off3_D (by with_reducible assumption) (by k_mem)).symm | exact ne_nwS (by with_reducible assumption) (by k_mem) | exact (ne_nwS (by with_reducible assumption) (by k_mem)).symm | exact ne_nwT (by with_reducible assumption) (by k_mem) | exact (ne_nwT (by with_reducible assumption) (by k_mem)).symm | k_extra "cj" | omega))
  (k_with "k_in" => (first | with_reducible assumption | exact Frag.In.keeps (by with_reducible assumption) (Fr.keep (by with_reducible assumption))))
  (k_with "k_all" => (first | exact List.forall_mem_nil _ | (refine all_cons ?_ ?_; (focus k_ne); k_extra "k_all")))
  (k_with "call ref" => (k_here; (with_reducible show wpAny _ _ (call (Value.ref 230) _ _) _ _ _); k_dflt ((refine wpAny_call ?_); refine code_frameR (by exact rfl) (by exact rfl) (by exact rfl) (by k_asm) (by k_asm) (by k_asm) (by k_asm) (by k_asm) (by k_is) (by k_is) (by k_room) (by first | exact BindsTo.of_eq rfl | exact binds_K (by k_in) rfl (by k_is) rfl rfl rfl) (locs rfl) (by assumption) (by (repeat (first | exact Spl.base | apply Spl.cons))) ?_ (by exact rfl) (by exact rfl) (by exact rfl) (by decide); intro g' L' h' FG' F' N' B' X' T' l1 hT'; (try k_lt l1); (try dsimp only); (try k_lift B'); (try k_fold))))
  (k_with "RTail" => (k_dflt (refine tail_backR (by assumption) (by assumption) (by assumption) (by k_extra "kcf_all") ?_; intro kN2 hsep2; (try dsimp only [List.cons_append, List.nil_append] at kN2))))
  (k_with "eval Dict nil nil" => (k_here; k_dflt (refine newDict_K (by k_asm) (by k_asm) (TopRead.nolimit (by k_asm)) ?_); intro d' h' o' F' N' l1 lo' hs' fs' hi' fi'; (try k_lt l1); (try k_sweep)))
  (k_with "exec While Compare cons nil" => (k_here; k_dflt (refine whl_start 7 ?_)))
  (k_with "call builtin:len" => (k_here; (with_reducible show wpAny _ _ (call (Value.builtin "len") [Value.ref _]) _ _ _); k_dflt (refine lenR (by assumption) (by k_asm) (by k_memK) ?_)))
  (k_with "WhlIf" => (k_dflt (first | (refine WhlIf.yes (decide_eq_true (by omega)) ?_) | (refine WhlIf.no (decide_eq_false (by omega)) ?_))))
  (k_with "subscriptTail Name Constant ref int" => (k_here; (with_reducible show wpAny _ _ (subscriptTail _ _ (Value.ref _) (Value.int _ _)) _ _ _); k_dflt (first
      | (refine itemL (by k_asm) (by k_mem) (by decide) (by decide) (by rfl) ?_ (by with_unfolding_all rfl))
      | (refine itemT (by k_asm) (by k_mem) (by decide) (by decide) (by rfl) (by rfl) ?_ (by with_unfolding_all rfl)))))
  (k_with "subscriptTail Name Name ref int" => (k_here; (with_reducible show wpAny _ _ (subscriptTail _ _ (Value.ref _) (Value.int _ _)) _ _ _); k_dflt (first
      | (refine itemL (by k_asm) (by k_mem) (by decide) (by decide) (by rfl) ?_ (by with_unfolding_all rfl))
      | (refine itemT (by k_asm) (by k_mem) (by decide) (by decide) (by rfl) (by rfl) ?_ (by with_unfolding_all rfl)))))
  (k_with "subscriptTail Subscript Constant ref int" => (k_here; (with_reducible show wpAny _ _ (subscriptTail _ _ (Value.ref _) (Value.int _ _)) _ _ _); k_dflt (first
      | (refine itemL (by k_asm) (by k_mem) (by decide) (by decide) (by rfl) ?_ (by with_unfolding_all rfl))
      | (refine itemT (by k_asm) (by k_mem) (by decide) (by decide) (by rfl) (by rfl) ?_ (by with_unfolding_all rfl)))))
  (k_with "subscriptTail" => (k_here; (with_reducible show wpAny _ _ (subscriptTail _ _ (Value.ref _) (Value.int _ _)) _ _ _); k_dflt (first
      | (refine itemL (by k_asm) (by k_mem) (by decide) (by decide) (by rfl) ?_ (by with_unfolding_all rfl))
      | (refine itemT (by k_asm) (by k_mem) (by decide) (by decide) (by rfl) (by rfl) ?_ (by with_unfolding_all rfl)))))
  (k_with "exec For Tuple Call cons nil" => (k_here; (rename Fr _ _ _ _ => lF'); (with_unfolding_all refine' For_turns lF' ?_; k_whole)))
  (k_with "CompSrc" => (k_here; k_dflt (first
      | (refine LCg.CompSrc.ledger (by rfl) (by k_asm) (by k_asm) (by k_mem) (by first | size_fits | exact Nat.le_of_ble_eq_true rfl) ?_; intro g'; lcg_lit)
      | (refine LCg.CompSrc.base (by rfl) (by k_asm) (by k_asm) (by assumption) (by first | size_fits | exact Nat.le_of_ble_eq_true rfl) ?_; intro g'; lcg_lit)
      | (refine LCg.CompSrc.range (by rfl) (by k_asm) (by k_asm) (by assumption) (by first | decide | rfl) (by first | rfl | decide) (by first | size_fits | exact Nat.le_of_ble_eq_true rfl) ?_; intro g'; lcg_lit))))
  (k_with "callWith ref" => (k_here; (with_reducible show wpAny _ _ (callWith _ (Value.ref _) _ (backTo _ (starEach [] _)) []) _ _ _); k_dflt (refine callWith_K0 (by k_in) (by k_is) ?_)))
  (k_with "CompRest" => (with_unfolding_all first
      | (refine LCg.CompRest.succ ?_; intro v' I' oI' C' oC' D' m' h' tk' E' hv' hC' hx' F' N' off' ne'; (first | lcg_open hv' | (obtain ⟨t9', hv9'⟩ := hv'; subst hv9')))
      | refine LCg.CompRest.zero ?_))
  (k_with "FinE" => ((unfold LCg.FinE); intro D' h' tk' F' N' o1'; (try dsimp only [List.nil_append, List.cons_append] at N'); (try dsimp only)))
  (k_with "UnrEndW" => (k_dflt ktu_end))
  (k_with "subscriptTail Name Slice ref ref" => (k_here; (with_reducible show wpAny _ _ (subscriptTail _ (PySem.Expr.Slice (some _) (some _) none _) (Value.ref _) (Value.ref _)) _ _ _); k_dflt (refine kmk_slice_lit (by k_asm) (by k_asm) (by exact News.isList (by k_asm) (by k_mem)) (by kmk_part) (by kmk_part) (by exact pick45) ?_ (by with_unfolding_all rfl) (by kmk_pure) (by (simp only [List.size_toArray, List.length_cons]; exact room24 (by omega)))); intro D' h' F' N' l1; (try k_lt l1); (try k_sweep)))
  (k_with "exec While BoolOp cons nil" => (k_here; k_dflt (refine whl_start 7 ?_)))
  (k_with "exec For Name Call cons nil" => (k_here; (with_reducible show wpAny _ _ (exec (Stmt.For (Expr.Name (PySem.Str.ofString "place") _) _ _ _ _) _) _ _ _); (rename Fr _ _ _ _ => lF'); (with_unfolding_all refine' For_turns lF' ?_; k_whole)))
  (k_with "pyIter ref" => (k_here; (with_reducible show wpAny _ _ (pyIter (Value.ref _)) (fun it s₂ => TurnsAt _ _ _ _ _ (Expr.Name (PySem.Str.ofString "place") _) _ _ _ it s₂) _ _); k_dflt (refine iter_range1 (by rfl) (by assumption) (by rfl) (by rfl) (by k_asm) (by k_asm) ?_); intro I' l1; (try k_lt l1)))
  (k_with "exec For Name Name cons nil" => (k_here; (with_reducible show wpAny _ _ (exec (Stmt.For (Expr.Name (PySem.Str.ofString "number") _) _ _ _ _) _) _ _ _); (rename Fr _ _ _ _ => lF'); (with_unfolding_all refine' For_turns lF' ?_; k_whole)))
  (k_with "subscriptTail Name Name str int" => (k_here; (with_reducible show wpAny _ _ (subscriptTail _ _ (Value.str (PySem.Str.ofString "0") _) (Value.int _ _)) _ _ _); k_dflt (refine item0_lit ?_)))
  (k_with "ite" => (k_closed; k_dflt (first | refine ite_pos (by decide +kernel) ?_ | refine ite_neg (by decide +kernel) ?_)))
  (k_with "call ref" => (k_here; (with_reducible show wpAny _ _ (call (Value.ref 171) _ _) _ _ _); k_dflt (refine ct_spec (by k_asm) (by exact rfl) (by exact rfl) (by exact rfl) (by k_asm) (by k_asm) (by k_asm) (by k_asm) (by rfl) (by k_mem) (by k_mem) (by k_mem) (by k_ne) (by k_ne) (by k_ne) ?_; (intro h' tk' t' F' N'); (try k_sweep))))
  have hf := fill w
  revert hf
  k_fill
  intro _
  have hto : ∀ p ∈ tl, p.1 ≠ L ∧ h₀.get? p.1 = none := fun p hp => (N p (List.mem_append.mpr (.inr hp))).2
  have hsE := sep_add (E := E6) hsep
  have N2 := newsOf N (l' := rX w t0 t1 t2 t3 t4 t5 t6 (Str.ofString "top") 3 u0 u1 u2 u3 u4 u5 true rd r nd nl li lo lc dn dd lO dp ra on od op oO (listOf #[] x0) oo oi (listOf (.ref a0 :: .ref a1 :: .ref a2 :: .ref a3 :: .ref a4 :: .ref a5 :: rvs).toArray rn) ++ (E6 ++ tl)) (fun p hp => by
    rcases List.mem_append.mp hp with hp | hp
    · exact List.mem_append.mpr (.inl hp)
    rcases List.mem_append.mp hp with hp | hp
    · exact List.mem_append.mpr (.inr (pE p hp))
    · exact List.mem_append.mpr (.inr hp))
  clear pE
  subst hE6
  dsimp only [rX, List.cons_append, List.nil_append] at N2 hsE
  clear N hsep
  have hl0 := hl
  have hbf := lts_pw hl hra
  have hle := lts_le hl hra
  have hE' := hE
  simp only [List.forall_mem_cons, List.not_mem_nil, false_implies, implies_true, and_true] at hE'
  obtain ⟨g1, g2, g3, g4, g5, g6⟩ := hE'
  k_steps
  dsimp only
  (refine' k ?z1 ?z2 ?z3 ?z4 ?z5 ?z6 ?z7 ?z8 ?z9)
  (case z1 => with_reducible assumption)
  (case z2 => refine newsOf (by assumption) ?_; (dsimp only [rX, List.cons_append, List.nil_append]; intro p hp; revert p; kcf_all))
  (case z6 => first | with_reducible assumption | assumption)
  (case z7 => first | with_reducible assumption | assumption)
  (case z8 => first | with_reducible assumption | assumption)
  (case z9 => first | with_reducible assumption | assumption)
  (case z3 => refine sep_lowE (by assumption) ?_ (rX_le hl hra) hE; (dsimp only [rX, List.cons_append, List.nil_append]; kcf_all))
  (case z4 => k_extra "ltn")
  (case z5 => k_extra "ltn")
end Mine
end
section
open PySem PySem.W PyProof.Rows PyProof.V
namespace Mine
#guard_msgs (drop info, drop warning) in
set_option maxRecDepth 100000 in
set_option maxHeartbeats 8000000 in
theorem f_spec {w : World} {e2 : Env} {nm : Str} {nms : List (Str × NameKind)} {ig ic : Bool} {mo : List (Str × Const)} {a : Addr} {cd : Value} {base h₀ : Heap} {L : Addr} {m mg mb : Str → Option Value} {mean : ExcName → Option Value} {E Q : Value → Shared → Prop} {s : Shared}
    {tl : List (Addr × Obj)} {t0 t1 t2 t3 t4 t5 t6 u0 u1 u2 u3 u4 u5 : Nat} {rd r nd nl li lo lc dn dd lO dp ra ot bl : Addr} {on od op oc oi oR : Obj} {x0 x1 x2 x3 x4 x5 v0 v1 v2 v3 : Nat}
    (B : Below (callerA.deeper e2) base [e2] h₀) (F : Fr h₀ L s.heap m) (KX : (top.heap_1 w.params).In h₀)
    (N : News h₀ L s.heap (rX w t0 t1 t2 t3 t4 t5 t6 (Str.ofString "top") 4 u0 u1 u2 u3 u4 u5 true rd r nd nl li lo lc dn dd lO dp ra on od op (listOf #[.ref ot] x0) oc (listOf #[] x1) oi oR ++ tl))
    {q9 : Program} {lo9 : List Str} (T : Top q9 lo9 mean mg mb h₀)
    (hl : Lts rd r nd nl li lo lc dn dd lO dp) (hra : @LT.lt Nat _ dp ra)
    (hsep : Sep [] tl (rX w t0 t1 t2 t3 t4 t5 t6 (Str.ofString "top") 4 u0 u1 u2 u3 u4 u5 true rd r nd nl li lo lc dn dd lO dp ra on od op (listOf #[.ref ot] x0) oc (listOf #[] x1) oi oR))
    {E6 : List (Addr × Obj)} (hE6 : E6 = [(ot, { cls := .type "tuple", data := .seq #[.str (Str.ofString "y") x2, .ref bl] x3 }), (bl, listOf #[.str (Str.ofString "y") x4] x5)])
    (pE : ∀ p ∈ E6, p ∈ tl) (hE : ∀ e ∈ E6, @LT.lt Nat _ ra e.1)
    (mdn : (dn == sysModules) = false) (mdd : (dd == sysModules) = false) (don : on.IsDictOf (PySem.strKind progB w) [(FF, .int 0 v0), (TT, .int 1 v1), (Str.ofString "x", .int 2 v2), (Str.ofString "y", .int 3 v3)]) (fon : FlatPairs PyData.str [(FF, .int 0 v0), (TT, .int 1 v1), (Str.ofString "x", .int 2 v2), (Str.ofString "y", .int 3 v3)] [(.str FF, .int 0), (.str TT, .int 1), (.str (Str.ofString "x"), .int 2), (.str (Str.ofString "y"), .int 3)])
    (dod : od.IsDictOf (PySem.strKind progB w) [(FF, .bool true), (TT, .bool true), (Str.ofString "x", .bool true), (Str.ofString "y", .bool true)]) (fod : FlatPairs PyData.str [(FF, .bool true), (TT, .bool true), (Str.ofString "x", .bool true), (Str.ofString "y", .bool true)] [(.str FF, .bool true), (.str TT, .bool true), (.str (Str.ofString "x"), .bool true), (.str (Str.ofString "y"), .bool true)])
    (k : ∀ {h' : Heap} {tk' t0 t1 t2 t3 t4 t5 t6 u0 u1 u2 u3 u4 u5 y0 y1 y2 y3 y4 : Nat} {o2 l2 : Addr}, Fr h₀ L h' m →
      News h₀ L h' (rX w t0 t1 t2 t3 t4 t5 t6 (Str.ofString "top") 4 u0 u1 u2 u3 u4 u5 true rd r nd nl li lo lc dn dd lO dp ra on od op (listOf #[.ref ot] x0) oc (listOf #[.ref o2] y0) oi oR ++
        (o2, { cls := .type "tuple", data := .seq #[.str (Str.ofString "y") y1, .ref l2] y2 }) :: (l2, listOf #[.int 3 y3] y4) :: tl) →
      Q (.ref nl) { s with heap := h', toks := tk' }) :
    wpAny (model progB w) ((callerA.deeper e2).deeper (envOf nm ⟨.function, nms, ig, ic, mo⟩ L a cd)) (call (.ref 235) [.ref r]) Q E s := by
  k_with_none
  (k_with "kcf_all" => (first | exact sub_nil | exact fun _ hp => hp | (refine sub_cons ?_ ?_; (focus kcf_m); k_extra "kcf_all")))
  (k_with "ap" => ((repeat (first | ((with_reducible refine Ap.here ?_); k_mem; done) | ((with_reducible refine Ap.back ?_); k_mem; done) | (with_reducible refine Ap.there ?_))); done))
  (k_with "bf" => ((repeat (first | ((with_reducible refine Bf.here ?_); k_mem; done) | (with_reducible refine Bf.there ?_))); done))
  (k_with "ltn" => (first | with_reducible assumption | exact lt_nw (by with_reducible assumption) (by k_mem) | exact lt_nw2 (by with_reducible assumption) (by with_reducible assumption) (by k_mem) | (refine bf_lt (by with_reducible assumption) ?_; k_extra "bf") | omega))
  (k_with "cj" => ((rename (_ ∧ _ ∧ _) => hcj9); first | exact hcj9.1 | exact (hcj9.1).symm | exact hcj9.2.1 | exact (hcj9.2.1).symm | exact hcj9.2.2.1 | exact (hcj9.2.2.1).symm | exact hcj9.2.2.2.1 | exact (hcj9.2.2.2.1).symm | exact hcj9.2.2.2.2.1 | exact (hcj9.2.2.2.2.1).symm | exact hcj9.2.2.2.2.2.1 | exact (hcj9.2.2.2.2.2.1).symm | exact hcj9.2.2.2.2.2.2.1 | exact (hcj9.2.2.2.2.2.2.1).symm | exact hcj9.2.2.2.2.2.2.2.1 | exact (hcj9.2.2.2.2.2.2.2.1).symm | exact hcj9.2.2.2.2.2.2.2.2.1 | exact (hcj9.2.2.2.2.2.2.2.2.1).symm | exact hcj9.2.2.2.2.2.2.2.2.2.1 | exact (hcj9.2.2.2.2.2.2.2.2.2.1).symm | exact hcj9.2.2.2.2.2.2.2.2.2.2.1 | exact (hcj9.2.2.2.2.2.2.2.2.2.2.1).symm | exact hcj9.2.2.2.2.2.2.2.2.2.2.2.1 | exact (hcj9.2.2.2.2.2.2.2.2.2.2.2.1).symm | exact hcj9.2.2.2.2.2.2.2.2.2.2.2.2.1 | exact (hcj9.2.2.2.2.2.2.2.2.2.2.2.2.1).symm | exact hcj9.2.2.2.2.2.2.2.2.2.2.2.2.2.1 | exact (hcj9.2.2.2.2.2.2.2.2.2.2.2.2.2.1).symm | exact hcj9.2.2.2.2.2.2.2.2.2.2.2.2.2.2.1 | exact (hcj9.2.2.2.2.2.2.2.2.2.2.2.2.2.2.1).symm | exact hcj9.2.2.2.2.2.2.2.2.2.2.2.2.2.2.2.1 | exact (hcj9.2.2.2.2.2.2.2.2.2.2.2.2.2.2.2.1).symm | exact hcj9.2.2.2.2.2.2.2.2.2.2.2.2.2.2.2.2.1 | exact (hcj9.2.2.2.2.2.2.2.2.2.2.2.2.2.2.2.2.1).symm | exact hcj9.2.2.2.2.2.2.2.2.2.2.2.2.2.2.2.2.2.1 | exact (hcj9.2.2.2.2.2.2.2.2.2.2.2.2.2.2.2.2.2.1).symm | exact hcj9.2.2.2.2.2.2.2.2.2.2.2.2.2.2.2.2.2.2.1 | exact (hcj9.2.2.2.2.2.2.2.2.2.2.2.2.2.2.2.2.2.2.1).symm | exact hcj9.2.2.2.2.2.2.2.2.2.2.2.2.2.2.2.2.2.2.2.1 | exact (hcj9.2.2.2.2.2.2.2.2.2.2.2.2.2.2.2.2.2.2.2.1).symm | exact hcj9.2.2.2.2.2.2.2.2.2.2.2.2.2.2.2.2.2.2.2.2.1 | exact (hcj9.2.2.2.2.2.2.2.2.2.2.2.2.2.2.2.2.2.2.2.2.1).symm | exact hcj9.2.2.2.2.2.2.2.2.2.2.2.2.2.2.2.2.2.2.2.2.2.1 | exact (hcj9.2.2.2.2.2.2.2.2.2.2.2.2.2.2.2.2.2.2.2.2.2.1).symm | exact hcj9.2.2.2.2.2.2.2.2.2.2.2.2.2.2.2.2.2.2.2.2.2.2.1 | exact (hcj9.2.2.2.2.2.2.2.2.2.2.2.2.2.2.2.2.2.2.2.2.2.2.1).symm | exact hcj9.2.2.2.2.2.2.2.2.2.2.2.2.2.2.2.2.2.2.2.2.2.2.2.1 | exact (hcj9.2.2.2.2.2.2.2.2.2.2.2.2.2.2.2.2.2.2.2.2.2.2.2.1).symm | exact hcj9.2.2.2.2.2.2.2.2.2.2.2.2.2.2.2.2.2.2.2.2.2.2.2.2.1 | exact (hcj9.2.2.2.2.2.2.2.2.2.2.2.2.2.2.2.2.2.2.2.2.2.2.2.2.1).symm | exact hcj9.2.2.2.2.2.2.2.2.2.2.2.2.2.2.2.2.2.2.2.2.2.2.2.2.2.1 | exact (hcj9.2.2.2.2.2.2.2.2.2.2.2.2.2.2.2.2.2.2.2.2.2.2.2.2.2.1).symm))
  (k_with "k_ne" => ((show @Ne Nat _ _); (try dsimp only); first | with_reducible assumption | exact ne_nw (by with_reducible assumption) (by k_mem) | exact (ne_nw (by with_reducible assumption) (by k_mem)).symm | exact le1_ne (by with_reducible assumption) (by with_reducible assumption) (by k_mem) | exact (le1_ne (by with_reducible assumption) (by with_reducible assumption) (by k_mem)).symm | exact Nat.ne_of_lt (by with_reducible assumption) | exact Nat.ne_of_gt (by with_reducible assumption) | exact Ne.symm (by with_reducible assumption) | (refine ap_ne (by with_reducible assumption) ?_; k_extra "ap") | exact leE_ne (by with_reducible assumption) (by with_reducible assumption) (by k_mem) (by k_mem) | exact (leE_ne (by with_reducible assumption) (by with_reducible assumption) (by k_mem) (by k_mem)).symm | exact ne_nw2 (by with_reducible assumption) (by with_reducible assumption) (by k_mem) | exact (ne_nw2 (by with_reducible assumption) (by with_reducible assumption) (by k_mem)).symm | exact off1_ne (by with_reducible assumption) (by k_mem) | exact (off1_ne (by with_reducible assumption) (by k_mem)).symm | exact off3_I (by with_reducible assumption) (by k_mem) | exact (off3_I (by with_reducible assumption) (by k_mem)).symm | exact off3_C (by with_reducible assumption) (by k_mem) | exact (off3_C (by with_reducible assumption) (by k_mem)).symm | exact off3_D (by with_reducible assumption) (by k_mem) | exact (off3_D (by with_reducible assumption) (by k_mem)).symm | exact ne_nwS (by with_reducible assumption) (by k_mem) | exact (ne_nwS (by with_reducible assumption) (by k_mem)).symm | exact ne_nwT (by with_reducible assumption) (by k_mem) | exact (ne_nwT (by with_reducible assumption) (by k_mem)).symm | k_extra "cj" | omega))
  (k_with "k_in" => (first | with_reducible assumption | exact Frag.In.keeps (by with_reducible assumption) (Fr.keep (by with_reducible assumption))))
  (k_with "k_all" => (first | exact List.forall_mem_nil _ | (refine all_cons ?_ ?_; (focus k_ne); k_extra "k_all")))
  (k_with "call ref" => (k_here; (with_reducible show wpAny _ _ (call (Value.ref 230) _ _) _ _ _); k_dflt ((refine wpAny_call ?_); refine code_frameR (by exact rfl) (by exact rfl) (by exact rfl) (by k_asm) (by k_asm) (by k_asm) (by k_asm) (by k_asm) (by k_is) (by k_is) (by k_room) (by first | exact BindsTo.of_eq rfl | exact binds_K (by k_in) rfl (by k_is) rfl rfl rfl) (locs rfl) (by assumption) (by (repeat (first | exact Spl.base | apply Spl.cons))) ?_ (by exact rfl) (by exact rfl) (by exact rfl) (by decide); intro g' L' h' FG' F' N' B' X' T' l1 hT'; (try k_lt l1); (try dsimp only); (try k_lift B'); (try k_fold))))
  (k_with "RTail" => (k_dflt (refine tail_backR (by assumption) (by assumption) (by assumption) (by k_extra "kcf_all") ?_; intro kN2 hsep2; (try dsimp only [List.cons_append, List.nil_append] at kN2))))
  (k_with "eval Dict nil nil" => (k_here; k_dflt (refine newDict_K (by k_asm) (by k_asm) (TopRead.nolimit (by k_asm)) ?_); intro d' h' o' F' N' l1 lo' hs' fs' hi' fi'; (try k_lt l1); (try k_sweep)))
  (k_with "exec While Compare cons nil" => (k_here; k_dflt (refine whl_start 7 ?_)))
  (k_with "call builtin:len" => (k_here; (with_reducible show wpAny _ _ (call (Value.builtin "len") [Value.ref _]) _ _ _); k_dflt (refine lenR (by assumption) (by k_asm) (by k_memK) ?_)))
  (k_with "WhlIf" => (k_dflt (first | (refine WhlIf.yes (decide_eq_true (by omega)) ?_) | (refine WhlIf.no (decide_eq_false (by omega)) ?_))))
  (k_with "subscriptTail Name Constant ref int" => (k_here; (with_reducible show wpAny _ _ (subscriptTail _ _ (Value.ref _) (Value.int _ _)) _ _ _); k_dflt (first
      | (refine itemL (by k_asm) (by k_mem) (by decide) (by decide) (by rfl) ?_ (by with_unfolding_all rfl))
      | (refine itemT (by k_asm) (by k_mem) (by decide) (by decide) (by rfl) (by rfl) ?_ (by with_unfolding_all rfl)))))
  (k_with "subscriptTail Name Name ref int" => (k_here; (with_reducible show wpAny _ _ (subscriptTail _ _ (Value.ref _) (Value.int _ _)) _ _ _); k_dflt (first
      | (refine itemL (by k_asm) (by k_mem) (by decide) (by decide) (by rfl) ?_ (by with_unfolding_all rfl))
      | (refine itemT (by k_asm) (by k_mem) (by decide) (by decide) (by rfl) (by rfl) ?_ (by with_unfolding_all rfl)))))
  (k_with "subscriptTail Subscript Constant ref int" => (k_here; (with_reducible show wpAny _ _ (subscriptTail _ _ (Value.ref _) (Value.int _ _)) _ _ _); k_dflt (first
      | (refine itemL (by k_asm) (by k_mem) (by decide) (by decide) (by rfl) ?_ (by with_unfolding_all rfl))
      | (refine itemT (by k_asm) (by k_mem) (by decide) (by decide) (by rfl) (by rfl) ?_ (by with_unfolding_all rfl)))))
  (k_with "subscriptTail" => (k_here; (with_reducible show wpAny _ _ (subscriptTail _ _ (Value.ref _) (Value.int _ _)) _ _ _); k_dflt (first
      | (refine itemL (by k_asm) (by k_mem) (by decide) (by decide) (by rfl) ?_ (by with_unfolding_all rfl))
      | (refine itemT (by k_asm) (by k_mem) (by decide) (by decide) (by rfl) (by rfl) ?_ (by with_unfolding_all rfl)))))
  (k_with "exec For Tuple Call cons nil" => (k_here; (rename Fr _ _ _ _ => lF'); (with_unfolding_all refine' For_turns lF' ?_; k_whole)))
  (k_with "CompSrc" => (k_here; k_dflt (first
      | (refine LCg.CompSrc.ledger (by rfl) (by k_asm) (by k_asm) (by k_mem) (by first | size_fits | exact Nat.le_of_ble_eq_true rfl) ?_; intro g'; lcg_lit)
      | (refine LCg.CompSrc.base (by rfl) (by k_asm) (by k_asm) (by assumption) (by first | size_fits | exact Nat.le_of_ble_eq_true rfl) ?_; intro g'; lcg_lit)
      | (refine LCg.CompSrc.range (by rfl) (by k_asm) (by k_asm) (by assumption) (by first | decide | rfl) (by first | rfl | decide) (by first | size_fits | exact Nat.le_of_ble_eq_true rfl) ?_; intro g'; lcg_lit))))
  (k_with "callWith ref" => (k_here; (with_reducible show wpAny _ _ (callWith _ (Value.ref _) _ (backTo _ (starEach [] _)) []) _ _ _); k_dflt (refine callWith_K0 (by k_in) (by k_is) ?_)))
  (k_with "CompRest" => (with_unfolding_all first
      | (refine LCg.CompRest.succ ?_; intro v' I' oI' C' oC' D' m' h' tk' E' hv' hC' hx' F' N' off' ne'; (first | lcg_open hv' | (obtain ⟨t9', hv9'⟩ := hv'; subst hv9')))
      | refine LCg.CompRest.zero ?_))
  (k_with "FinE" => ((unfold LCg.FinE); intro D' h' tk' F' N' o1'; (try dsimp only [List.nil_append, List.cons_append] at N'); (try dsimp only)))
  (k_with "UnrEndW" => (k_dflt ktu_end))
  (k_with "subscriptTail Name Slice ref ref" => (k_here; (with_reducible show wpAny _ _ (subscriptTail _ (PySem.Expr.Slice (some _) (some _) none _) (Value.ref _) (Value.ref _)) _ _ _); k_dflt (refine kmk_slice_lit (by k_asm) (by k_asm) (by exact News.isList (by k_asm) (by k_mem)) (by kmk_part) (by kmk_part) (by exact pick45) ?_ (by with_unfolding_all rfl) (by kmk_pure) (by (simp only [List.size_toArray, List.length_cons]; exact room24 (by omega)))); intro D' h' F' N' l1; (try k_lt l1); (try k_sweep)))
  (k_with "exec While BoolOp cons nil" => (k_here; k_dflt (refine whl_start 7 ?_)))
  (k_with "exec For Name Call cons nil" => (k_here; (with_reducible show wpAny _ _ (exec (Stmt.For (Expr.Name (PySem.Str.ofString "place") _) _ _ _ _) _) _ _ _); (rename Fr _ _ _ _ => lF'); (with_unfolding_all refine' For_turns lF' ?_; k_whole)))
  (k_with "pyIter ref" => (k_here; (with_reducible show wpAny _ _ (pyIter (Value.ref _)) (fun it s₂ => TurnsAt _ _ _ _ _ (Expr.Name (PySem.Str.ofString "place") _) _ _ _ it s₂) _ _); k_dflt (refine iter_range1 (by rfl) (by assumption) (by rfl) (by rfl) (by k_asm) (by k_asm) ?_); intro I' l1; (try k_lt l1)))
  (k_with "exec For Name Name cons nil" => (k_here; (with_reducible show wpAny _ _ (exec (Stmt.For (Expr.Name (PySem.Str.ofString "number") _) _ _ _ _) _) _ _ _); (rename Fr _ _ _ _ => lF'); (with_unfolding_all refine' For_turns lF' ?_; k_whole)))
  (k_with "subscriptTail Name Name str int" => (k_here; (with_reducible show wpAny _ _ (subscriptTail _ _ (Value.str (PySem.Str.ofString "0") _) (Value.int _ _)) _ _ _); k_dflt (refine item0_lit ?_)))
  (k_with "ite" => (k_closed; k_dflt (first | refine ite_pos (by decide +kernel) ?_ | refine ite_neg (by decide +kernel) ?_)))
  (k_with "exec For Tuple Attribute cons nil" => (k_here; (rename Fr _ _ _ _ => lF'); (with_unfolding_all refine' For_turns lF' ?_; k_whole)))
  (k_with "call ref" => (k_here; (with_reducible show wpAny _ _ (call (Value.ref 235) _ _) _ _ _); k_dflt ((refine wpAny_call ?_); refine code_frameCR (by exact rfl) (by exact rfl) (by exact rfl) (by k_asm) (by k_asm) (by k_asm) (by k_asm) (by k_asm) (by k_is) (by k_is) (by k_room) (by first | exact BindsTo.of_eq rfl | exact binds_K (by k_in) rfl (by k_is) rfl rfl rfl) (by exact rfl) (by decide +kernel) (by assumption) (by (repeat (first | exact Spl.base | apply Spl.cons))) ?_ (by exact rfl) (by exact rfl) (by exact rfl); intro g' L' h' tk' cells' FG' F' N' Y' B' X' T' l1 hT'; (try k_lt l1); k_cells Y'; (try dsimp only [List.cons_append, List.nil_append] at N'); (try dsimp only); (try k_lift B'); (try k_fold))))
  have hf := fill w
  revert hf
  k_fill
  intro _
  have hto : ∀ p ∈ tl, p.1 ≠ L ∧ h₀.get? p.1 = none := fun p hp => (N p (List.mem_append.mpr (.inr hp))).2
  have hsE := sep_add (E := E6) hsep
  have N2 := newsOf N (l' := rX w t0 t1 t2 t3 t4 t5 t6 (Str.ofString "top") 4 u0 u1 u2 u3 u4 u5 true rd r nd nl li lo lc dn dd lO dp ra on od op (listOf #[.ref ot] x0) oc (listOf #[] x1) oi oR ++ (E6 ++ tl)) (fun p hp => by
    rcases List.mem_append.mp hp with hp | hp
    · exact List.mem_append.mpr (.inl hp)
    rcases List.mem_append.mp hp with hp | hp
    · exact List.mem_append.mpr (.inr (pE p hp))
    · exact List.mem_append.mpr (.inr hp))
  clear pE
  subst hE6
  dsimp only [rX, List.cons_append, List.nil_append] at N2 hsE
  clear N hsep
  have hl0 := hl
  have hbf := lts_pw hl hra
  have hle := lts_le hl hra
  have hE' := hE
  simp only [List.forall_mem_cons, List.not_mem_nil, false_implies, implies_true, and_true] at hE'
  obtain ⟨g1, g2⟩ := hE'
  k_steps
  dsimp only
  (refine' k ?z1 ?z2)
  (case z1 => with_reducible assumption)
  (case z2 => refine newsOf (by assumption) ?_; (dsimp only [rX, List.cons_append, List.nil_append]; intro p hp; revert p; kcf_all))
end Mine
end
section
open PySem PySem.Spec PySem.Calls PyProof.Rows PySem.W
namespace Mine
/-- an exception of the program's own: its arguments stand in its dict -/
abbrev exO (C d : Addr) (vs : Array Value) : Obj := { cls := .ref C, dict := some d, data := .fields vs }
def TracD (C : Addr) (h base : Heap) (e d : Addr) (fl : Value) : Prop :=
  ∃ vs T oT ts, h.get? e = some (exO C d vs) ∧ vs[1]? = some (.ref T) ∧ base.get? T = none ∧ T ≠ e ∧ h.get? T = some oT ∧ oT.data = .fields ts ∧ ts[3]? = some fl
def NotD (C : Addr) (base : Heap) (l : List Env) (e d : Addr) (fl : Value) (h h' : Heap) : Prop :=
  base.StaysIn h' ∧ h'.FunFrames base l ∧ TracD C h' base e d fl ∧ h.UpToSlots h'
section
variable {M : Model} {A : Around} {E : Value → Shared → Prop} {s : Shared} {C : Addr}
theorem entryD {base : Heap} {env : Env} {outer : List Env} {L e d : Addr} {vs : Array Value} {head : Value} {hadNext : Bool} {Q : Unit → Shared → Prop}
    (hfr : A.frames = some (env :: outer)) (hl : s.heap.FunFrames base (env :: outer)) (hf : env.frame = some L)
    (he : s.heap.get? e = some (exO C d vs)) (hkb : base.StaysIn s.heap) (hen : base.get? e = none) (hsz : 1 < vs.size)
    (h : ∀ h', NotD C base (env :: outer) e d (rawInt L) s.heap h' → Q () { s with heap := h' }) :
    wpAny M A (do let a ← frameOf env; let pl ← entryPlaceOf L hadNext; let b ← EntryCells.newEntry head a .none (rawInt L) .none pl; setField (.ref e) 1 b) Q E s := by
  have hene : e ∉ (env :: outer).filterMap (·.frame) := fun hm => by
    obtain ⟨_, o, ho, hnf⟩ := hl.mem hm
    rw [he] at ho; injection ho with ho; subst ho; exact hnf vs rfl
  refine wpAny_bind (wpAny_frameOf_fun hfr hl hf fun h₁ hs₁ => ?_)
  refine wpAny_bind (wpAny_entryPlaceOf fun pl hpl => ?_)
  unfold EntryCells.newEntry newFields
  refine wpAny_bind (wpAny_newObj_type ?_ (hpl.sizeOk5 _ _ _ _ _))
  generalize hob : ({ cls := .type "traceback", dict := none, data := .fields ([head, .ref L, .none, rawInt L, .none] ++ (if pl.isEmpty then List.replicate 6 Value.none else pl)).toArray } : Obj) = ob
  have hobd : ob.data = .fields ([head, .ref L, .none, rawInt L, .none] ++ (if pl.isEmpty then List.replicate 6 Value.none else pl)).toArray := by rw [← hob]
  have hobf : ob.isFreed = false := by rw [← hob]; rfl
  have he₁ : h₁.get? e = some (exO C d vs) := (hs₁.2.1 e hene).trans he
  have kb₁ : base.StaysIn h₁ := fun b o hbo => (hs₁.2.1 b fun hm => by rw [(hl.mem hm).1] at hbo; cases hbo).trans (hkb b o hbo)
  have he₂ := Heap.get?_push_of_some (h := h₁) ob he₁
  refine wpAny_setField he₂ rfl hsz (h _ ?_)
  have hTe : h₁.objs.size ≠ e := Nat.ne_of_gt (Heap.lt_size he₁)
  have he₃ := Heap.get?_update_self (Obj.mapFields (·.setIfInBounds 1 (Value.ref h₁.objs.size))) he₂ rfl
  have hT₃ := (Heap.get?_update_other (h₁.push ob) (Obj.mapFields (·.setIfInBounds 1 (Value.ref h₁.objs.size))) (Ne.symm hTe)).trans (Heap.get?_push_size h₁ hobf)
  have keep : ∀ b o, b ≠ e → h₁.get? b = some o → ((h₁.push ob).update e (Obj.mapFields (·.setIfInBounds 1 (Value.ref h₁.objs.size)))).get? b = some o := fun b o hbe hb => by
    rw [Heap.get?_update_other _ _ (Ne.symm hbe)]
    exact Heap.get?_push_of_some _ hb
  have noRecord : ∀ b o, s.heap.get? b = some o → (∀ vs, o.data ≠ .fields vs) → b ≠ e := fun b o hb hnf q => by
    rw [q, he] at hb; injection hb with hb; subst hb; exact hnf vs rfl
  refine ⟨fun b o hbo => keep b o (fun q => by rw [q, hen] at hbo; cases hbo) (kb₁ b o hbo), hl.of_keeps fun b o hb hnf => ?_, ?_, fun b o hb hnf => ?_⟩
  · obtain ⟨sl, hs⟩ := hs₁.2.2 b o hb
    exact ⟨_, keep b _ (noRecord b o hb hnf) hs, rfl⟩
  · refine ⟨vs.setIfInBounds 1 (Value.ref h₁.objs.size), h₁.objs.size, ob, _, he₃, by simp [hsz], kb₁.fresh, hTe, hT₃, hobd, ?_⟩
    first | (simp; done) | (rcases hpl with rfl | ⟨_, _, _, _, _, _, _, rfl⟩ <;> simp)
  · obtain ⟨sl, hs⟩ := hs₁.2.2 b o hb
    exact ⟨sl, keep b _ (noRecord b o hb hnf) hs⟩

theorem note_firstD {base : Heap} {env : Env} {outer : List Env} {L e d : Addr} {vs : Array Value} {Q : Unit → Shared → Prop}
    (hfr : A.frames = some (env :: outer)) (hl : s.heap.FunFrames base (env :: outer)) (hf : env.frame = some L)
    (he : s.heap.get? e = some (exO C d vs)) (hkb : base.StaysIn s.heap) (hen : base.get? e = none) (h1 : vs[1]? = some .none)
    (h : ∀ h', NotD C base (env :: outer) e d (rawInt L) s.heap h' → Q () { s with heap := h' }) : wpAny M A (noteFrame (.ref e) env) Q E s := by
  unfold noteFrame
  simp only [hf]
  refine wpAny_bind (wpAny_field he rfl h1 ?_)
  rw [if_neg (by decide)]
  exact entryD hfr hl hf he hkb hen (Array.getElem?_eq_some_iff.mp h1).1 h

theorem note_onD {base : Heap} {env : Env} {outer : List Env} {L e d : Addr} {Q : Unit → Shared → Prop}
    (hfr : A.frames = some (env :: outer)) (hl : s.heap.FunFrames base (env :: outer)) (hf : env.frame = some L) (ht : TracD C s.heap base e d .none) (hkb : base.StaysIn s.heap) (hen : base.get? e = none)
    (h : ∀ h', NotD C base (env :: outer) e d (rawInt L) s.heap h' → Q () { s with heap := h' }) : wpAny M A (noteFrame (.ref e) env) Q E s := by
  obtain ⟨vs, T, oT, ts, he, h1, hnT, hTe, hT, hdT, h3⟩ := ht
  unfold noteFrame
  simp only [hf]
  refine wpAny_bind (wpAny_field he rfl h1 ?_)
  rw [if_pos (show (Value.ref T != Value.none) = true from by simp)]
  refine wpAny_bind (wpAny_field hT hdT h3 ?_)
  rw [if_neg (show ¬ ((Value.none == rawInt L) = true) from by simp [rawInt])]
  refine wpAny_bind (wpAny_setField hT hdT (Array.getElem?_eq_some_iff.mp h3).1 ?_)
  have other : ∀ b, b ≠ T → (s.heap.update T (Obj.mapFields (·.setIfInBounds 3 Value.none))).get? b = s.heap.get? b := fun b hb => Heap.get?_update_other _ _ (Ne.symm hb)
  have noRecord : ∀ b o, s.heap.get? b = some o → (∀ vs, o.data ≠ .fields vs) → b ≠ T := fun b o hb hnf q => by
    rw [q, hT] at hb; injection hb with hb; subst hb; exact hnf ts hdT
  refine entryD hfr (hl.of_keeps fun b o hb hnf => ⟨o, (other b (noRecord b o hb hnf)).trans hb, rfl⟩) hf ((other e (Ne.symm hTe)).trans he)
    (fun b o hbo => (other b fun q => by rw [q, hnT] at hbo; cases hbo).trans (hkb b o hbo)) hen (Array.getElem?_eq_some_iff.mp h1).1
    fun h' ⟨x1, x2, x3, x4⟩ => h h' ⟨x1, x2, x3, fun b o hb hnf => x4 b o ((other b (noRecord b o hb hnf)).trans hb) hnf⟩

theorem flightD {base : Heap} {l : List Env} {e d : Addr} {fl : Value} {Q : Unit → Shared → Prop}
    (hkb : base.StaysIn s.heap) (hl : s.heap.FunFrames base l) (ht : TracD C s.heap base e d fl)
    (h : ∀ h', NotD C base l e d .none s.heap h' → Q () { s with heap := h' }) :
    wpAny M A (setFlight (.ref e) none) Q E s := by
  obtain ⟨vs, T, oT, ts, he, h1, hnT, hTe, hT, hdT, h3⟩ := ht
  have hsz3 : 3 < ts.size := (Array.getElem?_eq_some_iff.mp h3).1
  have other : ∀ b, b ≠ T → (s.heap.update T (Obj.mapFields (·.setIfInBounds 3 ((none : Option Addr).elim Value.none fun f => rawInt f)))).get? b = s.heap.get? b :=
    fun b hb => Heap.get?_update_other _ _ (Ne.symm hb)
  have noRecord : ∀ b o, s.heap.get? b = some o → (∀ vs, o.data ≠ .fields vs) → b ≠ T := fun b o hb hnf q => by
    rw [q, hT] at hb; injection hb with hb; subst hb; exact hnf ts hdT
  unfold setFlight
  refine wpAny_bind (wpAny_field he rfl h1 ?_)
  rw [if_pos (show (Value.ref T != Value.none) = true from by simp)]
  refine wpAny_setField hT hdT hsz3 (h _ ⟨fun b o hbo => (other b fun q => by rw [q, hnT] at hbo; cases hbo).trans (hkb b o hbo),
    hl.of_keeps fun b o hb hnf => ⟨o, (other b (noRecord b o hb hnf)).trans hb, rfl⟩, ?_, fun b o hb hnf => ⟨o.slots, (other b (noRecord b o hb hnf)).trans hb⟩⟩)
  exact ⟨vs, T, _, _, (other e (Ne.symm hTe)).trans he, h1, hnT, hTe, Heap.get?_update_self _ hT (Obj.isFreed_of_fields (Obj.data_mapFields hdT _)), Obj.data_mapFields hdT _, by simp [hsz3]⟩

/-- in flight, its dict (and what else is listed) kept -/
def RaisedD (C : Addr) (base : Heap) (l : List Env) (e d : Addr) (news : List (Addr × Obj)) (h : Heap) : Prop :=
  ∃ B, base.StaysIn B ∧ (∀ q ∈ news, B.get? q.1 = some q.2 ∧ base.get? q.1 = none) ∧ B.StaysIn h ∧ B.get? e = none ∧ h.FunFrames B l ∧ TracD C h B e d .none

theorem leave_firstD {base g : Heap} {outer : List Env} {L a e d : Addr} {m : Str → Option Value} {name : Str} {scope : Scope} {cd : Value} {Q : Unit → Shared → Prop} {news ex : List (Addr × Obj)} {vs : Array Value}
    (K : Below A base outer g) (F : Fr g L s.heap m) (N : News g L s.heap news) (he : s.heap.get? e = some (exO C d vs)) (heg : g.get? e = none) (h1 : vs[1]? = some .none) (hne : ∀ q ∈ news, q.1 ≠ e)
    (hx : ∀ q ∈ ex, g.get? q.1 = some q.2 ∧ base.get? q.1 = none ∧ ∀ env ∈ outer, env.frame ≠ some q.1)
    (hQ : ∀ h', RaisedD C base outer e d (news ++ ex) h' → g.UpToSlots h' → Q () { s with heap := h' }) (hk : scope.kind = .function := by rfl) :
    wpAny M (A.deeper (envOf name scope L a cd)) (leaving (envOf name scope L a cd) (.ref e)) Q E s := by
  have K' := K.push (name := name) (a := a) (cd := cd) F hk
  have heb : base.get? e = none := by
    cases q : base.get? e with
    | none => rfl
    | some o => rw [K.stays e o q] at heg; cases heg
  have hin : ∀ env ∈ (envOf name scope L a cd :: outer), ∀ b, env.frame = some b → b ∈ e :: (envOf name scope L a cd :: outer).filterMap (·.frame) := fun env he b hb => .tail _ (List.mem_filterMap.mpr ⟨env, he, hb⟩)
  have st : base.StaysIn (hideAll s.heap (e :: (envOf name scope L a cd :: outer).filterMap (·.frame))) := fun b o q => hideAll_get _ (K'.stays b o q) fun hm => by
    rcases List.mem_cons.mp hm with rfl | hm
    · rw [heb] at q; cases q
    · rw [(K'.frames.mem hm).1] at q; cases q
  have hl : ∀ q ∈ news ++ ex, (hideAll s.heap (e :: (envOf name scope L a cd :: outer).filterMap (·.frame))).get? q.1 = some q.2 ∧ base.get? q.1 = none := fun q hq => by
    rcases List.mem_append.mp hq with hq | hq
    rotate_left
    · obtain ⟨x1, x2, x3⟩ := hx q hq
      refine ⟨hideAll_get _ (F.keep _ _ x1) fun hm => ?_, x2⟩
      rcases List.mem_cons.mp hm with hm | hm
      · rw [hm, heg] at x1; cases x1
      obtain ⟨env, he, hf⟩ := List.mem_filterMap.mp hm
      rcases List.mem_cons.mp he with rfl | he
      · have z : L = q.1 := Option.some.inj hf
        exact absurd (Heap.lt_size x1) (Nat.not_lt.mpr (z ▸ F.above))
      · exact x3 env he hf
    refine ⟨hideAll_get _ (N q hq).1 fun hm => ?_, fresh_of_stays K.stays (N q hq).2.2⟩
    rcases List.mem_cons.mp hm with hm | hm
    · exact hne q hq hm
    obtain ⟨env, he, hf⟩ := List.mem_filterMap.mp hm
    rcases List.mem_cons.mp he with rfl | he
    · exact (N q hq).2.1 (Option.some.inj hf).symm
    · obtain ⟨o, ho, _⟩ := (K.frames.mem (List.mem_filterMap.mpr ⟨env, he, hf⟩)).2
      rw [(N q hq).2.2] at ho; cases ho
  unfold leaving
  refine wpAny_bind (note_firstD K'.stack (funFrames_hide K'.frames hin) rfl he (fun b o q => of_hideAll _ q) (hideAll_none _ (.head _)) h1 fun h₁ n₁ => ?_)
  refine flightD (s := { s with heap := h₁ }) n₁.1 n₁.2.1 n₁.2.2.1 fun h₂ n₂ => ?_
  exact hQ h₂ ⟨_, st, hl, n₂.1, hideAll_none _ (.head _), n₂.2.1.2.2, n₂.2.2.1⟩ ((Heap.UpToSlots.of_keeps F.keep).trans (n₁.2.2.2.trans n₂.2.2.2))

theorem leave_onD {base g g₂ : Heap} {outer : List Env} {L a e d : Addr} {m : Str → Option Value} {name : Str} {scope : Scope} {cd : Value} {Q : Unit → Shared → Prop} {news : List (Addr × Obj)}
    (K : Below A base outer g) (F : Fr g L g₂ m) (R : RaisedD C base (envOf name scope L a cd :: outer) e d news s.heap) (hsm : g₂.UpToSlots s.heap)
    (hQ : ∀ h', RaisedD C base outer e d news h' → g.UpToSlots h' → Q () { s with heap := h' }) :
    wpAny M (A.deeper (envOf name scope L a cd)) (leaving (envOf name scope L a cd) (.ref e)) Q E s := by
  obtain ⟨B, hB, hl, f1, f2, f3, f4⟩ := R
  unfold leaving
  refine wpAny_bind (note_onD (Around.frames_deeper K.stack) f3 rfl f4 f1 f2 fun h₁ n₁ => ?_)
  refine flightD (s := { s with heap := h₁ }) n₁.1 n₁.2.1 n₁.2.2.1 fun h₂ n₂ => ?_
  exact hQ h₂ ⟨B, hB, hl, n₂.1, f2, n₂.2.1.2.2, n₂.2.2.1⟩ ((Heap.UpToSlots.of_keeps F.keep).trans (hsm.trans (n₁.2.2.2.trans n₂.2.2.2)))
end
section
variable {prog : Program} {w : World} {A₀ : Around} {E : Value → Shared → Prop} {s' : Shared} {h₀ h : Heap} {outer : List Env} {L a e d C N : Addr} {m : Str → Option Value} {name : Str} {scope : Scope} {cd : Value}
  {n : Str} {b₀ : Stmt} {suite : List Stmt} {pos np : Pos} {rest : List ExceptHandler} {Q : Flow → Shared → Prop} {news : List (Addr × Obj)} {KF : Frag}
  {p : Program} {loose : List Str} {mg mb : Str → Option Value} {x : Str}
  {nm q : Str} {bs bm : List Value} {hdct : Bool} {sn : List Str} {sub : List Value} {ab : Bool} {col : Option Bool} {dd : Option Addr} {k0 k1 k2 k3 k5 : Option Value} {newId : String}
theorem caughtD (K : Below A₀ h₀ outer h₀) (F : Fr h₀ L h m) (hsm : h.UpToSlots s'.heap) (R : RaisedD C h₀ (envOf name scope L a cd :: outer) e d news s'.heap)
    (X : KF.In h₀) (T : TopRead p loose mg mb h₀) (ex : nsIn KF mainGlobals x = some (some (.ref C))) (hC : h₀.get? C = some (excClassObj nm q C N bs bm hdct sn sub ab col dd k0 k1 k2 k3 k5 newId)) (hbase : bm.contains (.type "BaseException") = true)
    (k : ∀ h' tk vs, Fr h₀ L h' (fun y => if y = n then some (.ref e) else m y) → News h₀ L h' ((e, exO C d vs) :: news) →
      wpAny (model prog w) ((A₀.deeper (envOf name scope L a cd)).mark (some (.ref e))) (execs (b₀ :: suite) (envOf name scope L a cd))
        (fun f s₄ => wpAny (model prog w) (A₀.deeper (envOf name scope L a cd)) (do bindName (envOf name scope L a cd) n .none; unbindBehindTheSuite (envOf name scope L a cd) n pos) (fun _ s₅ => Q f s₅) E s₄)
        (AsSuiteRaised (model prog w) ((A₀.deeper (envOf name scope L a cd)).mark (some (.ref e))) (envOf name scope L a cd) n pos (notedBy (model prog w) ((A₀.deeper (envOf name scope L a cd)).mark (some (.ref e))) (envOf name scope L a cd) (cameBackBy (model prog w) (A₀.deeper (envOf name scope L a cd)) (envOf name scope L a cd) E)))
        { s' with heap := h', toks := tk })
    (hk : scope.kind = .function := by rfl) (hlo : (envOf name scope L a cd).kindOf n = some .local := by rfl) (hx : (envOf name scope L a cd).kindOf x = some .globalImplicit := by rfl) (hd : (x == ("__debug__" : Str)) = false := by decide) :
    wpAny (model prog w) (A₀.deeper (envOf name scope L a cd)) (noteFrame (.ref e) (envOf name scope L a cd))
      (fun _ s₂ => wpAny (model prog w) (A₀.deeper (envOf name scope L a cd)) (setFlight (.ref e) none) (fun _ s₃ =>
        wpAny (model prog w) (A₀.deeper (envOf name scope L a cd)) (handleBy (.ref e) (envOf name scope L a cd) (.ExceptHandler (some (.Name x np)) (some n) (b₀ :: suite) pos :: rest)) Q E s₃) E s₂) E s' := by
  obtain ⟨B, hB, hl, f1, f2, f3, f4⟩ := R
  have hL : B.get? L = none := by
    obtain ⟨_, ⟨L', _, hf, hn', _⟩, _⟩ := f3
    obtain rfl : L = L' := Option.some.inj hf
    exact hn'
  refine note_onD (Around.frames_deeper K.stack) f3 rfl f4 f1 f2 fun h₄ n₄ => ?_
  refine flightD (s := { s' with heap := h₄ }) n₄.1 n₄.2.1 n₄.2.2.1 fun h₅ n₅ => ?_
  have hsm₅ := n₄.2.2.2.trans n₅.2.2.2
  have F₅ := F.of_stays (fun b o e => n₅.1 b o (hB b o e)) (hsm.trans hsm₅)
  obtain ⟨vs, T', oT, ts, he, r⟩ := n₅.2.2.1
  refine wpAny_handleBy_cons (codeAny_handlers_test (name_K F₅ X T ex ?_ hk hx hd)) (by intro q; cases q)
  refine wpAny_excMatches_sub_self (F₅.keep _ _ hC) he rfl hbase (codeAny_handlers_suite_as ?_)
  refine flightD (s := { s' with heap := h₅ }) n₅.1 n₅.2.1 n₅.2.2.1 fun h₆ n₆ => ?_
  have F₆ := F.of_stays (fun b o e => n₆.1 b o (hB b o e)) ((hsm.trans hsm₅).trans n₆.2.2.2)
  obtain ⟨vs', T₂, oT₂, ts₂, he', r'⟩ := n₆.2.2.1
  have Nl : News h₀ L h₆ news := fun q hq => ⟨n₆.1 _ _ (hl q hq).1, (fun z => by have := (hl q hq).1; rw [z, hL] at this; cases this), (hl q hq).2⟩
  have N₆ : News h₀ L h₆ ((e, exO C d vs') :: news) := News.more F₆ Nl he' (fun es n q => by cases q) (fresh_of_stays hB f2)
  refine stN F₆ N₆ (fun h₇ F₇ N₇ => ?_) hk hlo
  exact k h₇ _ _ F₇ N₇
end
section
variable {M : Model} {A : Around} {E : Value → Shared → Prop} {env : Env} {C N : Addr} {s : Shared}
  {nm q : Str} {bs bm : List Value} {hdct : Bool} {sn : List Str} {sub : List Value} {ab : Bool} {col : Option Bool} {dd : Option Addr} {k0 k1 k2 k3 k5 : Option Value} {newId : String}
theorem raiseStmtD {x : Sem Value} {Q : Flow → Shared → Prop} (hbase : bm.contains (.type "BaseException") = true) (hh : A.handled = none)
    (h : wpAny M A x (fun v s₁ => ∃ e t d, v = .ref e ∧ s₁.heap.get? C = some (excClassObj nm q C N bs bm hdct sn sub ab col dd k0 k1 k2 k3 k5 newId) ∧
      s₁.heap.get? e = some (exO C d #[.ref t, .none, .none, .none, .bool false, .none]) ∧ E (.ref e) s₁) E s) :
    wpAny M A (raiseStmt env (some x) none) Q E s := by
  have hcB : (Value.ref C :: bm).contains (.type "BaseException") = true := by rw [List.contains_cons, hbase, Bool.or_true]
  unfold raiseStmt
  refine wpAny_bind (wpAny_mono h (fun v s₁ h₁ => ?_) fun _ _ x => x)
  obtain ⟨e, t, d, rfl, hC, he, hE⟩ := h₁
  obtain ⟨hp, g, d', tk, os⟩ := s₁
  repeat (first | with_reducible refine wpAny_loadPart_at he ?_ | with_reducible refine wpAny_loadPart_at hC ?_ | (with_reducible refine wpAny_isSubtype_exc hC ?_; rw [hcB]) | wp_step)
  exact wpAny_raiseNew_none hh hE
end
section
variable {prog : Program} {w : World} {A : Around} {E : Value → Shared → Prop} {env : Env} {C N : Addr} {s : Shared}
  {nm q : Str} {bs bm : List Value} {hdct : Bool} {sn : List Str} {sub : List Value} {ab : Bool} {col : Option Bool} {dd : Option Addr} {k0 k1 k2 k3 k5 : Option Value} {newId : String}
theorem Raise_D {x : Expr} {pos : Pos} {Q : Flow → Shared → Prop} (hbase : bm.contains (.type "BaseException") = true) (hh : A.handled = none)
    (h : wpAny (model prog w) A (eval x env) (fun v s₁ => ∃ e t d, v = .ref e ∧ s₁.heap.get? C = some (excClassObj nm q C N bs bm hdct sn sub ab col dd k0 k1 k2 k3 k5 newId) ∧
      s₁.heap.get? e = some (exO C d #[.ref t, .none, .none, .none, .bool false, .none]) ∧ E (.ref e) s₁) E s) :
    wpAny (model prog w) A (exec (.Raise (some x) none pos) env) Q E s := by
  rw [arm_exec_Raise]
  first
    | exact wpAny_bind (wpAny_standAt (raiseStmtD hbase hh h))
    | (simp only [evalOpt, Option.map]; exact wpAny_bind (wpAny_standAt (raiseStmtD hbase hh h)))
    | (simp only [evalOpt, Option.map]; exact wpAny_bind (wpAny_standAt (raiseStmtD hbase hh (wpAny_bind (wpAny_mono h (fun v s₃ h₃ => wpAny_bind (wpAny_standAt (wpAny_pure h₃))) fun _ _ x => x)))))
    | (exact wpAny_bind (wpAny_standAt (raiseStmtD hbase hh (wpAny_bind (wpAny_mono h (fun v s₃ h₃ => wpAny_bind (wpAny_standAt (wpAny_pure h₃))) fun _ _ x => x)))))
end
end Mine
end
section
open PySem PySem.W PyProof.Rows PyProof.V PySem.W.X
namespace Mine
abbrev exL (x1 x2 x3 : Int) (K A D S : Str) (b0 b1 b2 t1 t2 t3 : Nat) (p : Int) (q : Str) : Obj :=
  W.dictOf [⟨x1, .str K b0, .str S t1⟩, ⟨x2, .str A b1, .int p t2⟩, ⟨x3, .str D b2, .str q t3⟩] 3
abbrev exD (x1 x2 x3 : Int) (b0 b1 b2 t1 t2 t3 : Nat) (p : Int) (q : Str) : Obj := exL x1 x2 x3 (Str.ofString "kind") (Str.ofString "at") (Str.ofString "detail") (Str.ofString "several_models") b0 b1 b2 t1 t2 t3 p q
theorem fe_fin {h h' : Heap} {g : Array GenState} {d : Drawn} {tk' : Nat} {os : OsState} {Q : Value → Shared → Prop} {p : Int} {q : Str} {t1 t2 t3 b0 b1 b2 : Nat} {da f e ta : Addr} {of ot : Obj} {x1 x2 x3 : Int}
    (k : ∀ (h' : Heap) (tk' : Nat) (e da ta : Addr) (b0 b1 b2 : Nat) (x1 x2 x3 : Int), h.StaysIn h' → h'.get? e = some (exO 52 da #[.ref ta, .none, .none, .none, .bool false, .none]) → h'.get? da = some (exD x1 x2 x3 b0 b1 b2 t1 t2 t3 p q) → h.get? e = none → h.get? da = none → e ≠ da → Q (.ref e) ⟨h', g, d, tk', os⟩)
    (D : Mem h h' [] [(da, exL x1 x2 x3 ⟨#[107,105,110,100]⟩ ⟨#[97,116]⟩ ⟨#[100,101,116,97,105,108]⟩ ⟨#[115,101,118,101,114,97,108,95,109,111,100,101,108,115]⟩ b0 b1 b2 t1 t2 t3 p q), (f, of), (e, exO 52 da #[.ref ta, .none, .none, .none, .bool false, .none]), (ta, ot)]) : Q (.ref e) ⟨h', g, d, tk', os⟩ := by
  have e1 : (⟨#[107,105,110,100]⟩ : Str) = Str.ofString "kind" := by decide +kernel
  have e2 : (⟨#[97,116]⟩ : Str) = Str.ofString "at" := by decide +kernel
  have e3 : (⟨#[100,101,116,97,105,108]⟩ : Str) = Str.ofString "detail" := by decide +kernel
  have e4 : (⟨#[115,101,118,101,114,97,108,95,109,111,100,101,108,115]⟩ : Str) = Str.ofString "several_models" := by decide +kernel
  rw [e1, e2, e3, e4] at D
  exact k h' tk' e da ta b0 b1 b2 x1 x2 x3 (fun b o e => D.keep b o e (by simp [away])) (D.nw _ (.tail _ (.tail _ (.head _)))).1 (D.nw _ (.head _)).1 (D.nw _ (.tail _ (.tail _ (.head _)))).2 (D.nw _ (.head _)).2
    (Ne.symm (D.ne 0 2 _ _ _ _ rfl rfl rfl))
local macro_rules | `(tactic| x_close) => `(tactic| (apply fe_fin; assumption; assumption))
theorem fe_call.xw2225968682586033025 : True := trivial
set_option Elab.async true in
set_option maxRecDepth 100000 in
set_option maxHeartbeats 4000000 in
theorem fe_call {w : World} {e1 e2 e3 : Env} {h : Heap} {g : Array GenState} {d : Drawn} {tk t1 t2 t3 : Nat} {os : OsState} {p : Int} {q : Str} {E Q : Value → Shared → Prop}
    (KX : (top.heap_1 w.params).In h)
    (k : ∀ (h' : Heap) (tk' : Nat) (e da ta : Addr) (b0 b1 b2 : Nat) (x1 x2 x3 : Int), h.StaysIn h' → h'.get? e = some (exO 52 da #[.ref ta, .none, .none, .none, .bool false, .none]) → h'.get? da = some (exD x1 x2 x3 b0 b1 b2 t1 t2 t3 p q) → h.get? e = none → h.get? da = none → e ≠ da → Q (.ref e) ⟨h', g, d, tk', os⟩) :
    wpAny (model progB w) (((callerA.deeper e1).deeper e2).deeper e3) (call (.ref 52) [.str (Str.ofString "several_models") t1, .int p t2, .str q t3]) Q E ⟨h, g, d, tk, os⟩ := by
  x_run
end Mine
end
section
open PySem PySem.W PyProof.Rows PyProof.V
namespace Mine
def excOk (K : Frag) (C : Addr) : Bool := match K.lookup C with
  | some ⟨.type "type", _, .cls cd, sl⟩ => (match cd.mro, sl.toList with
    | .ref C' :: bm, [_, _, _, _, some (.builtin _), _] => C' == C && !cd.hasDel && bm.contains (Value.type "BaseException")
    | _, _ => false)
  | _ => false
theorem exc_of {K : Frag} {C : Addr} (q : excOk K C = true) : ∃ nm qq N bs bm hdct sn sub ab col dd k0 k1 k2 k3 k5 newId, K.lookup C = some (excClassObj nm qq C N bs bm hdct sn sub ab col dd k0 k1 k2 k3 k5 newId) ∧ bm.contains (Value.type "BaseException") = true := by
  unfold excOk at q
  split at q
  · rename_i dd cd sl ho
    split at q
    · rename_i C' bm k0 k1 k2 k3 n k5 hm hs
      simp only [Bool.and_eq_true, beq_iff_eq, Bool.not_eq_true'] at q
      obtain ⟨⟨rfl, hdel⟩, hb⟩ := q
      obtain ⟨nm, bs, mro, ns, qn, hd, sn, sub, ab, col, del⟩ := cd
      dsimp only at hm hdel
      subst hm hdel
      have hsl : sl = #[k0, k1, k2, k3, some (.builtin n), k5] := by
        obtain ⟨l⟩ := sl
        simp only at hs
        rw [hs]
      subst hsl
      exact ⟨nm, qn, ns, bs, bm, hd, sn, sub, ab, col, dd, k0, k1, k2, k3, k5, n, ho, hb⟩
    · cases q
  · cases q
theorem cls52 (P : Params) : ∃ nm q N bs bm hdct sn sub ab col dd k0 k1 k2 k3 k5 newId, (top.heap_1 P).lookup 52 = some (excClassObj nm q 52 N bs bm hdct sn sub ab col dd k0 k1 k2 k3 k5 newId) ∧ bm.contains (Value.type "BaseException") = true :=
  exc_of (by first | rfl | decide +kernel)
end Mine
end
section
open PySem PySem.W PyProof.Rows PyProof.V
namespace Mine
theorem pick_from {vs : List Value} {a : Nat} : (slicePick vs.toArray (some (a : Int)) none none).toList = vs.drop a := by
  have e : sliceBounds (some (a : Int)) none none vs.toArray.size = (((min a vs.toArray.size : Nat) : Int), ((vs.toArray.size : Nat) : Int), 1) := by
    simp only [sliceBounds, Option.getD_none, show (1 : Int) > 0 by decide, if_true, if_neg (show ¬ ((a : Int) < 0) by omega)]
    congr 1
    omega
  rw [kmk_pick_nat _ e]
  show (vs.drop (min a vs.toArray.size)).take (vs.toArray.size - min a vs.toArray.size) = _
  rw [List.size_toArray, kmk_drop_min, List.take_of_length_le (by rw [List.length_drop]; omega)]
theorem drop6 {v0 v1 v2 v3 v4 v5 : Value} {vs : List Value} : (slicePick (v0 :: v1 :: v2 :: v3 :: v4 :: v5 :: vs).toArray (some 6) none none).toList = vs := pick_from (a := 6)
theorem drop1 {v0 : Value} {vs : List Value} : (slicePick (v0 :: vs).toArray (some 1) none none).toList = vs := pick_from (a := 1)
section
variable {prog : Program} {w : World} {A : Around} {E : Value → Shared → Prop} {s : Shared} {env : Env} {h₀ : Heap} {target : Expr} {body : List Stmt} {Q : Flow → Shared → Prop} {L : Addr} {m : Str → Option Value}
theorem itemB {value slice : Expr} {a : Addr} {vs : List Value} {k : Int} {u : Tok} {v : Value} {Q : Value → Shared → Prop} (F : Fr h₀ L s.heap m) (hl : h₀.IsList a vs.toArray) (h0 : 0 ≤ k) (hhi : k < 2 ^ 63) (hx : vs[k.toNat]? = some v) (h : Q v s)
    (hs : subscripted slice false (.ref a) (.int k u) = operate [.ref a, .int k u] (getItem (.ref a) (.int k u)) := by with_unfolding_all rfl) : wpAny (model prog w) A (subscriptTail value slice (.ref a) (.int k u)) Q E s :=
  tail_any (Fr.lst F hl).typeIs slot_list_getitem.lookup (wpAny_getItem_list (Fr.lst F hl) h0 hhi (by simpa using hx) h) hs
theorem items_m {ws : List (Addr × String)} {keep : List (Addr × Obj)} {xs : List Itm} {m m' : Str → Option Value} {news : List (Addr × Obj)} (e : m = m') (h : ItemsRest prog w A E h₀ env target body Q s ws keep xs m' news) : ItemsRest prog w A E h₀ env target body Q s ws keep xs m news := e ▸ h
theorem items_ind {ws : List (Addr × String)} {keep : List (Addr × Obj)} {news tl : List (Addr × Obj)} {mk : Option Value → Option Value → (Str → Option Value)} (J : List (Int × List Str) → Prop)
    (done : J [] → ∀ M1 M2, ItemsRest prog w A E h₀ env target body Q s ws keep [] (mk M1 M2) news)
    (turn : ∀ (ta wa : Addr) (b : Int) (t n wn : Nat) (wvs : List Value) (ws' : List Str) (vs : List Value) (rs : List (Int × List Str)), (ta, rowObj b t wa n) ∈ tl → (wa, listOf wvs.toArray wn) ∈ tl → StrsAre wvs ws' → J ((b, ws') :: rs) →
      (J rs → ∀ M1 M2, ItemsRest prog w A E h₀ env target body Q s ws keep (vs.map .val) (mk M1 M2) news) → ∀ M1 M2, ItemsRest prog w A E h₀ env target body Q s ws keep (.val (.ref ta) :: vs.map .val) (mk M1 M2) news) :
    ∀ {vs : List Value} {rs : List (Int × List Str)}, RowsAre tl vs rs → J rs → ∀ M1 M2, ItemsRest prog w A E h₀ env target body Q s ws keep (vs.map .val) (mk M1 M2) news := by
  intro vs rs h
  induction h with
  | nil => exact done
  | cons h1 h2 h3 _ ih => exact fun hJ => turn _ _ _ _ _ _ _ _ _ _ h1 h2 h3 hJ ih
end
theorem strs_ne {vs : List Value} {ws : List Str} (h : StrsAre vs ws) (hn : ws ≠ []) : ∃ w0 ws' t vs', ws = w0 :: ws' ∧ vs = .str w0 t :: vs' ∧ StrsAre vs' ws' := by
  cases ws with
  | nil => exact absurd rfl hn
  | cons w0 ws' =>
    obtain ⟨t, r, e, h'⟩ := h.cons_inv
    exact ⟨w0, ws', t, r, rfl, e, h'⟩
/-- a row that opens a model -/
def opens (r : Int × List Str) : Bool := match r.2 with | w0 :: _ => w0 == Str.ofString ".model" | [] => false
abbrev rowMk (m₀ : Str → Option Value) (M1 M2 : Option Value) : Str → Option Value := fun y => if y = Str.ofString "more" then M1 else if y = Str.ofString "place" then M2 else m₀ y
theorem rowMk_self (m₀ : Str → Option Value) : m₀ = rowMk m₀ (m₀ (Str.ofString "more")) (m₀ (Str.ofString "place")) := by
  funext y
  show m₀ y = if y = Str.ofString "more" then m₀ (Str.ofString "more") else if y = Str.ofString "place" then m₀ (Str.ofString "place") else m₀ y
  split
  · rename_i h; rw [h]
  · split
    · rename_i h; rw [h]
    · rfl
theorem rowMk_twice {m₀ : Str → Option Value} {M1 M2 : Option Value} {N1 N2 : Option Value} : (fun y => if y = Str.ofString "more" then N1 else if y = Str.ofString "place" then N2 else rowMk m₀ M1 M2 y) = rowMk m₀ N1 N2 := by
  funext y
  show (if y = Str.ofString "more" then N1 else if y = Str.ofString "place" then N2 else if y = Str.ofString "more" then M1 else if y = Str.ofString "place" then M2 else m₀ y) = if y = Str.ofString "more" then N1 else if y = Str.ofString "place" then N2 else m₀ y
  split
  · rfl
  · split
    · rfl
    · rfl
end Mine
end
section
open PySem PySem.W PyProof.Rows PyProof.V
namespace Mine
section
variable {prog : Program} {w : World} {A : Around} {E : Value → Shared → Prop} {env : Env} {C N : Addr} {s : Shared}
  {nm q : Str} {bs bm : List Value} {hdct : Bool} {sn : List Str} {sub : List Value} {ab : Bool} {col : Option Bool} {dd : Option Addr} {k0 k1 k2 k3 k5 : Option Value} {newId : String}
theorem Raise_K {K : Frag} {x : Expr} {pos : Pos} {Q : Flow → Shared → Prop} (hC0 : K.lookup C = some (excClassObj nm q C N bs bm hdct sn sub ab col dd k0 k1 k2 k3 k5 newId)) (hbase : bm.contains (Value.type "BaseException") = true) (hh : A.handled = none)
    (h : wpAny (model prog w) A (eval x env) (fun v s₁ => Stop (∃ e t d, v = .ref e ∧ K.In s₁.heap ∧ s₁.heap.get? e = some (exO C d #[.ref t, .none, .none, .none, .bool false, .none]) ∧ E (.ref e) s₁)) E s) :
    wpAny (model prog w) A (exec (.Raise (some x) none pos) env) Q E s :=
  Raise_D hbase hh (wpAny_mono h (fun _ _ ⟨⟨e, t, d, h1, h2, h3, h4⟩⟩ => ⟨e, t, d, h1, h2 _ _ hC0, h3, h4⟩) fun _ _ x => x)
end
theorem fe_K {w : World} {e1 e2 e3 : Env} {h₀ : Heap} {L : Addr} {m : Str → Option Value} {news : List (Addr × Obj)} {s : Shared} {t1 t2 t3 : Nat} {p : Int} {q : Str} {E Q : Value → Shared → Prop}
    (KX : (top.heap_1 w.params).In h₀) (F : Fr h₀ L s.heap m) (N : News h₀ L s.heap news)
    (k : ∀ {h' : Heap} {tk' : Nat} {e da ta : Addr} {b0 b1 b2 : Nat} {x1 x2 x3 : Int}, Fr h₀ L h' m → News h₀ L h' ((e, exO 52 da #[.ref ta, .none, .none, .none, .bool false, .none]) :: (da, exD x1 x2 x3 b0 b1 b2 t1 t2 t3 p q) :: news) → @Ne Nat e da → Q (.ref e) { s with heap := h', toks := tk' }) :
    wpAny (model progB w) (((callerA.deeper e1).deeper e2).deeper e3) (call (.ref 52) [.str (Str.ofString "several_models") t1, .int p t2, .str q t3]) Q E s := by
  refine fe_call (KX.keeps F.keep) fun h' tk' e da ta b0 b1 b2 x1 x2 x3 hk he hda hne hnd hed => ?_
  have none0 : ∀ b, s.heap.get? b = none → h₀.get? b = none := fun b hb => by
    cases q : h₀.get? b with
    | none => rfl
    | some o => rw [F.keep b o q] at hb; cases hb
  have neL : ∀ b, s.heap.get? b = none → b ≠ L := fun b hb e => by
    obtain ⟨o, _, _, ho, _⟩ := F.ns
    rw [e, ho] at hb; cases hb
  refine k (ta := ta) (b0 := b0) (b1 := b1) (b2 := b2) (x1 := x1) (x2 := x2) (x3 := x3) (F.of_stays (fun b o e => hk b o (F.keep b o e)) (Heap.UpToSlots.of_keeps hk)) (fun x hx => ?_) hed
  rcases List.mem_cons.mp hx with rfl | hx
  · exact ⟨he, neL _ hne, none0 _ hne⟩
  rcases List.mem_cons.mp hx with rfl | hx
  · exact ⟨hda, neL _ hnd, none0 _ hnd⟩
  · exact ⟨hk _ _ (N x hx).1, (N x hx).2⟩
theorem raise_end {M : Model} {A : Around} {E : Value → Shared → Prop} {s : Shared} {base g : Heap} {outer : List Env} {L a e da ta : Addr} {m : Str → Option Value} {name : Str} {scope : Scope} {cd : Value} {Q : Unit → Shared → Prop} {rest ex : List (Addr × Obj)} {od : Obj}
    (K : Below A base outer g) (F : Fr g L s.heap m) (N : News g L s.heap ((e, exO 52 da #[.ref ta, .none, .none, .none, .bool false, .none]) :: (da, od) :: rest)) (ne : @Ne Nat e da)
    (hx : ∀ q ∈ ex, g.get? q.1 = some q.2 ∧ base.get? q.1 = none ∧ ∀ env ∈ outer, env.frame ≠ some q.1)
    (hQ : ∀ h', RaisedD 52 base outer e da ((da, od) :: ex) h' → g.UpToSlots h' → Q () { s with heap := h' }) (hk : scope.kind = .function := by rfl) :
    wpAny M (A.deeper (envOf name scope L a cd)) (leaving (envOf name scope L a cd) (.ref e)) Q E s :=
  leave_firstD (news := [(da, od)]) (ex := ex) K F (fun q hq => by rw [List.mem_singleton.mp hq]; exact N _ (.tail _ (.head _))) (N _ (.head _)).1 (N _ (.head _)).2.2 rfl (fun q hq => by rw [List.mem_singleton.mp hq]; exact Ne.symm ne) hx hQ hk
theorem ex_up {base h₀ g : Heap} {L : Addr} {m : Str → Option Value} {h : Heap} {ex : List (Addr × Obj)} {e1 e2 : Env} (hL : e1.frame = some L) (F : Fr h₀ L h m) (hx : ∀ q ∈ ex, h₀.get? q.1 = some q.2 ∧ base.get? q.1 = none ∧ e2.frame ≠ some q.1) (hk : h₀.StaysIn g) :
    ∀ q ∈ ex, g.get? q.1 = some q.2 ∧ base.get? q.1 = none ∧ ∀ env ∈ [e1, e2], env.frame ≠ some q.1 := fun q hq => by
  obtain ⟨x1, x2, x3⟩ := hx q hq
  refine ⟨hk _ _ x1, x2, fun env he hf => ?_⟩
  rcases List.mem_cons.mp he with rfl | he
  · rw [hL] at hf
    have z : L = q.1 := Option.some.inj hf
    exact absurd (Heap.lt_size x1) (Nat.not_lt.mpr (z ▸ F.above))
  rcases List.mem_cons.mp he with rfl | he
  · exact x3 hf
  · exact nomatch he
end Mine
end
section
open PySem PySem.W PyProof.Rows PyProof.V
namespace Mine
#guard_msgs (drop info, drop warning) in
set_option maxRecDepth 100000 in
set_option maxHeartbeats 8000000 in
theorem r5_spec {w : World} {e2 : Env} {nm : Str} {nms : List (Str × NameKind)} {ig ic : Bool} {mo : List (Str × Const)} {a : Addr} {cd : Value} {base h₀ : Heap} {L : Addr} {m mg mb : Str → Option Value} {mean : ExcName → Option Value} {E Q : Value → Shared → Prop} {s : Shared}
    {tl : List (Addr × Obj)} {t0 t1 t2 t3 t4 t5 t6 u0 u1 u2 u3 u4 u5 : Nat} {rd r nd nl li lo lc dn dd lO dp ra a0 a1 a2 a3 a4 a5 w5 : Addr} {on od op oc oi oO oo : Obj} {tvs : List Value} {tail : List (Int × List Str)} {rn z5 n5 s5 k5 z : Nat}
    (B : Below (callerA.deeper e2) base [e2] h₀) (F : Fr h₀ L s.heap m) (KX : (top.heap_1 w.params).In h₀) (hlen : tvs.length ≤ 4001)
    (N : News h₀ L s.heap (rX w t0 t1 t2 t3 t4 t5 t6 (Str.ofString "top") 4 u0 u1 u2 u3 u4 u5 true rd r nd nl li lo lc dn dd lO dp ra on od op oO oc oo oi (listOf (.ref a0 :: .ref a1 :: .ref a2 :: .ref a3 :: .ref a4 :: .ref a5 :: tvs).toArray rn) ++ tl))
    {q9 : Program} {lo9 : List Str} (T : Top q9 lo9 mean mg mb h₀)
    (hsep : Sep [] tl (rX w t0 t1 t2 t3 t4 t5 t6 (Str.ofString "top") 4 u0 u1 u2 u3 u4 u5 true rd r nd nl li lo lc dn dd lO dp ra on od op oO oc oo oi (listOf (.ref a0 :: .ref a1 :: .ref a2 :: .ref a3 :: .ref a4 :: .ref a5 :: tvs).toArray rn)))
    (p5 : (a5, rowObj 47 z5 w5 n5) ∈ tl) (q5 : (w5, listOf [Value.str (Str.ofString ".end") s5].toArray k5) ∈ tl)
    (hR : RowsAre tl tvs tail) (hne : ∀ x ∈ tail, x.2 ≠ []) (hwt : ∀ x ∈ tail, (x.2.map (·.length)).sum + x.2.length ≤ 1000000)
    {ex : List (Addr × Obj)} (hex : ∀ q ∈ ex, h₀.get? q.1 = some q.2 ∧ base.get? q.1 = none ∧ e2.frame ≠ some q.1)
    (kQ : tail.find? opens = none → ∀ {h' : Heap} {tk' z : Nat}, Fr h₀ L h' m →
      News h₀ L h' (rX w t0 t1 t2 t3 t4 t5 t6 (Str.ofString "top") 4 u0 u1 u2 u3 u4 u5 true rd r nd nl li lo lc dn dd lO dp ra on od op oO oc oo oi (listOf (.ref a0 :: .ref a1 :: .ref a2 :: .ref a3 :: .ref a4 :: .ref a5 :: tvs).toArray rn) ++ tl) →
      Q (.int ((tvs.length : Int) + 6) z) { s with heap := h', toks := tk' })
    (kE : ∀ b ws, tail.find? opens = some (b, ws) → ∀ {h' g : Heap} {tk' : Nat} {e da : Addr} {x1 x2 x3 : Int} {b0 b1 b2 t1 t2 t3 : Nat}, Fr h₀ L g m → g.UpToSlots h' →
      RaisedD 52 base [envOf nm ⟨.function, nms, ig, ic, mo⟩ L a cd, e2] e da ((da, exD x1 x2 x3 b0 b1 b2 t1 t2 t3 b (Txt.join (Str.ofString " ") (ws.drop 1))) :: ex) h' → E (.ref e) { s with heap := h', toks := tk' }) :
    wpAny (model progB w) ((callerA.deeper e2).deeper (envOf nm ⟨.function, nms, ig, ic, mo⟩ L a cd)) (call (.ref 230) [.ref r, .ref ra, .int 5 z]) Q E s := by
  k_with_none
  (k_with "kcf_all" => (first | exact sub_nil | exact fun _ hp => hp | (refine sub_cons ?_ ?_; (focus kcf_m); k_extra "kcf_all")))
  (k_with "ap" => ((repeat (first | ((with_reducible refine Ap.here ?_); k_mem; done) | ((with_reducible refine Ap.back ?_); k_mem; done) | (with_reducible refine Ap.there ?_))); done))
  (k_with "bf" => ((repeat (first | ((with_reducible refine Bf.here ?_); k_mem; done) | (with_reducible refine Bf.there ?_))); done))
  (k_with "ltn" => (first | with_reducible assumption | exact lt_nw (by with_reducible assumption) (by k_mem) | exact lt_nw2 (by with_reducible assumption) (by with_reducible assumption) (by k_mem) | (refine bf_lt (by with_reducible assumption) ?_; k_extra "bf") | omega))
  (k_with "cj" => ((rename (_ ∧ _ ∧ _) => hcj9); first | exact hcj9.1 | exact (hcj9.1).symm | exact hcj9.2.1 | exact (hcj9.2.1).symm | exact hcj9.2.2.1 | exact (hcj9.2.2.1).symm | exact hcj9.2.2.2.1 | exact (hcj9.2.2.2.1).symm | exact hcj9.2.2.2.2.1 | exact (hcj9.2.2.2.2.1).symm | exact hcj9.2.2.2.2.2.1 | exact (hcj9.2.2.2.2.2.1).symm | exact hcj9.2.2.2.2.2.2.1 | exact (hcj9.2.2.2.2.2.2.1).symm | exact hcj9.2.2.2.2.2.2.2.1 | exact (hcj9.2.2.2.2.2.2.2.1).symm | exact hcj9.2.2.2.2.2.2.2.2.1 | exact (hcj9.2.2.2.2.2.2.2.2.1).symm | exact hcj9.2.2.2.2.2.2.2.2.2.1 | exact (hcj9.2.2.2.2.2.2.2.2.2.1).symm | exact hcj9.2.2.2.2.2.2.2.2.2.2.1 | exact (hcj9.2.2.2.2.2.2.2.2.2.2.1).symm | exact hcj9.2.2.2.2.2.2.2.2.2.2.2.1 | exact (hcj9.2.2.2.2.2.2.2.2.2.2.2.1).symm | exact hcj9.2.2.2.2.2.2.2.2.2.2.2.2.1 | exact (hcj9.2.2.2.2.2.2.2.2.2.2.2.2.1).symm | exact hcj9.2.2.2.2.2.2.2.2.2.2.2.2.2.1 | exact (hcj9.2.2.2.2.2.2.2.2.2.2.2.2.2.1).symm | exact hcj9.2.2.2.2.2.2.2.2.2.2.2.2.2.2.1 | exact (hcj9.2.2.2.2.2.2.2.2.2.2.2.2.2.2.1).symm | exact hcj9.2.2.2.2.2.2.2.2.2.2.2.2.2.2.2.1 | exact (hcj9.2.2.2.2.2.2.2.2.2.2.2.2.2.2.2.1).symm | exact hcj9.2.2.2.2.2.2.2.2.2.2.2.2.2.2.2.2.1 | exact (hcj9.2.2.2.2.2.2.2.2.2.2.2.2.2.2.2.2.1).symm | exact hcj9.2.2.2.2.2.2.2.2.2.2.2.2.2.2.2.2.2.1 | exact (hcj9.2.2.2.2.2.2.2.2.2.2.2.2.2.2.2.2.2.1).symm | exact hcj9.2.2.2.2.2.2.2.2.2.2.2.2.2.2.2.2.2.2.1 | exact (hcj9.2.2.2.2.2.2.2.2.2.2.2.2.2.2.2.2.2.2.1).symm | exact hcj9.2.2.2.2.2.2.2.2.2.2.2.2.2.2.2.2.2.2.2.1 | exact (hcj9.2.2.2.2.2.2.2.2.2.2.2.2.2.2.2.2.2.2.2.1).symm | exact hcj9.2.2.2.2.2.2.2.2.2.2.2.2.2.2.2.2.2.2.2.2.1 | exact (hcj9.2.2.2.2.2.2.2.2.2.2.2.2.2.2.2.2.2.2.2.2.1).symm | exact hcj9.2.2.2.2.2.2.2.2.2.2.2.2.2.2.2.2.2.2.2.2.2.1 | exact (hcj9.2.2.2.2.2.2.2.2.2.2.2.2.2.2.2.2.2.2.2.2.2.1).symm | exact hcj9.2.2.2.2.2.2.2.2.2.2.2.2.2.2.2.2.2.2.2.2.2.2.1 | exact (hcj9.2.2.2.2.2.2.2.2.2.2.2.2.2.2.2.2.2.2.2.2.2.2.1).symm | exact hcj9.2.2.2.2.2.2.2.2.2.2.2.2.2.2.2.2.2.2.2.2.2.2.2.1 | exact (hcj9.2.2.2.2.2.2.2.2.2.2.2.2.2.2.2.2.2.2.2.2.2.2.2.1).symm | exact hcj9.2.2.2.2.2.2.2.2.2.2.2.2.2.2.2.2.2.2.2.2.2.2.2.2.1 | exact (hcj9.2.2.2.2.2.2.2.2.2.2.2.2.2.2.2.2.2.2.2.2.2.2.2.2.1).symm | exact hcj9.2.2.2.2.2.2.2.2.2.2.2.2.2.2.2.2.2.2.2.2.2.2.2.2.2.1 | exact (hcj9.2.2.2.2.2.2.2.2.2.2.2.2.2.2.2.2.2.2.2.2.2.2.2.2.2.1).symm))
  (k_with "k_ne" => ((show @Ne Nat _ _); (try dsimp only); first | with_reducible assumption | exact ne_nw (by with_reducible assumption) (by k_mem) | exact (ne_nw (by with_reducible assumption) (by k_mem)).symm | exact le1_ne (by with_reducible assumption) (by with_reducible assumption) (by k_mem) | exact (le1_ne (by with_reducible assumption) (by with_reducible assumption) (by k_mem)).symm | exact Nat.ne_of_lt (by with_reducible assumption) | exact Nat.ne_of_gt (by with_reducible assumption) | exact Ne.symm (by with_reducible assumption) | (refine ap_ne (by with_reducible assumption) ?_; k_extra "ap") | exact leE_ne (by with_reducible assumption) (by with_reducible assumption) (by k_mem) (by k_mem) | exact (leE_ne (by with_reducible assumption) (by with_reducible assumption) (by k_mem) (by k_mem)).symm | exact ne_nw2 (by with_reducible assumption) (by with_reducible assumption) (by k_mem) | exact (ne_nw2 (by with_reducible assumption) (by with_reducible assumption) (by k_mem)).symm | exact off1_ne (by with_reducible assumption) (by k_mem) | exact (off1_ne (by with_reducible assumption) (by k_mem)).symm | exact off3_I (by with_reducible assumption) (by k_mem) | exact (off3_I (by with_reducible assumption) (by k_mem)).symm | exact off3_C (by with_reducible assumption) (by k_mem) | exact (off3_C (by with_reducible assumption) (by k_mem)).symm | exact off3_D (by with_reducible assumption) (by k_mem) | exact (off3_D (by with_reducible assumption) (by k_mem)).symm | exact ne_nwS (by with_reducible assumption) (by k_mem) | exact (ne_nwS (by with_reducible assumption) (by k_mem)).symm | exact ne_nwT (by with_reducible assumption) (by k_mem) | exact (ne_nwT (by with_reducible assumption) (by k_mem)).symm | k_extra "cj" | omega))
  (k_with "k_in" => (first | with_reducible assumption | exact Frag.In.keeps (by with_reducible assumption) (Fr.keep (by with_reducible assumption))))
  (k_with "k_all" => (first | exact List.forall_mem_nil _ | (refine all_cons ?_ ?_; (focus k_ne); k_extra "k_all")))
  (k_with "call ref" => (k_here; (with_reducible show wpAny _ _ (call (Value.ref 230) _ _) _ _ _); k_dflt ((refine wpAny_call ?_); refine code_frameR (by exact rfl) (by exact rfl) (by exact rfl) (by k_asm) (by k_asm) (by k_asm) (by k_asm) (by k_asm) (by k_is) (by k_is) (by k_room) (by first | exact BindsTo.of_eq rfl | exact binds_K (by k_in) rfl (by k_is) rfl rfl rfl) (locs rfl) (by assumption) (by (repeat (first | exact Spl.base | apply Spl.cons))) ?_ (by exact rfl) (by exact rfl) (by exact rfl) (by decide); intro g' L' h' FG' F' N' B' X' T' l1 hT'; (try k_lt l1); (try dsimp only); (try k_lift B'); (try k_fold))))
  (k_with "RTail" => (k_dflt (refine tail_backR (by assumption) (by assumption) (by assumption) (by k_extra "kcf_all") ?_; intro kN2 hsep2; (try dsimp only [List.cons_append, List.nil_append] at kN2))))
  (k_with "eval Dict nil nil" => (k_here; k_dflt (refine newDict_K (by k_asm) (by k_asm) (TopRead.nolimit (by k_asm)) ?_); intro d' h' o' F' N' l1 lo' hs' fs' hi' fi'; (try k_lt l1); (try k_sweep)))
  (k_with "exec While Compare cons nil" => (k_here; k_dflt (refine whl_start 7 ?_)))
  (k_with "call builtin:len" => (k_here; (with_reducible show wpAny _ _ (call (Value.builtin "len") [Value.ref _]) _ _ _); k_dflt (refine lenR (by assumption) (by k_asm) (by k_memK) ?_)))
  (k_with "WhlIf" => (k_dflt (first | (refine WhlIf.yes (decide_eq_true (by omega)) ?_) | (refine WhlIf.no (decide_eq_false (by omega)) ?_))))
  (k_with "subscriptTail Name Constant ref int" => (k_here; (with_reducible show wpAny _ _ (subscriptTail _ _ (Value.ref _) (Value.int _ _)) _ _ _); k_dflt (first
      | (refine itemL (by k_asm) (by k_mem) (by decide) (by decide) (by rfl) ?_ (by with_unfolding_all rfl))
      | (refine itemT (by k_asm) (by k_mem) (by decide) (by decide) (by rfl) (by rfl) ?_ (by with_unfolding_all rfl)))))
  (k_with "subscriptTail Name Name ref int" => (k_here; (with_reducible show wpAny _ _ (subscriptTail _ _ (Value.ref _) (Value.int _ _)) _ _ _); k_dflt (first
      | (refine itemL (by k_asm) (by k_mem) (by decide) (by decide) (by rfl) ?_ (by with_unfolding_all rfl))
      | (refine itemT (by k_asm) (by k_mem) (by decide) (by decide) (by rfl) (by rfl) ?_ (by with_unfolding_all rfl)))))
  (k_with "subscriptTail Subscript Constant ref int" => (k_here; (with_reducible show wpAny _ _ (subscriptTail _ _ (Value.ref _) (Value.int _ _)) _ _ _); k_dflt (first
      | (refine itemL (by k_asm) (by k_mem) (by decide) (by decide) (by rfl) ?_ (by with_unfolding_all rfl))
      | (refine itemT (by k_asm) (by k_mem) (by decide) (by decide) (by rfl) (by rfl) ?_ (by with_unfolding_all rfl)))))
  (k_with "subscriptTail" => (k_here; (with_reducible show wpAny _ _ (subscriptTail _ _ (Value.ref _) (Value.int _ _)) _ _ _); k_dflt (first
      | (refine itemL (by k_asm) (by k_mem) (by decide) (by decide) (by rfl) ?_ (by with_unfolding_all rfl))
      | (refine itemT (by k_asm) (by k_mem) (by decide) (by decide) (by rfl) (by rfl) ?_ (by with_unfolding_all rfl)))))
  (k_with "exec For Tuple Call cons nil" => (k_here; (rename Fr _ _ _ _ => lF'); (with_unfolding_all refine' For_turns lF' ?_; k_whole)))
  (k_with "CompSrc" => (k_here; k_dflt (first
      | (refine LCg.CompSrc.ledger (by rfl) (by k_asm) (by k_asm) (by k_mem) (by first | size_fits | exact Nat.le_of_ble_eq_true rfl) ?_; intro g'; lcg_lit)
      | (refine LCg.CompSrc.base (by rfl) (by k_asm) (by k_asm) (by assumption) (by first | size_fits | exact Nat.le_of_ble_eq_true rfl) ?_; intro g'; lcg_lit)
      | (refine LCg.CompSrc.range (by rfl) (by k_asm) (by k_asm) (by assumption) (by first | decide | rfl) (by first | rfl | decide) (by first | size_fits | exact Nat.le_of_ble_eq_true rfl) ?_; intro g'; lcg_lit))))
  (k_with "callWith ref" => (k_here; (with_reducible show wpAny _ _ (callWith _ (Value.ref _) _ (backTo _ (starEach [] _)) []) _ _ _); k_dflt (refine callWith_K0 (by k_in) (by k_is) ?_)))
  (k_with "CompRest" => (with_unfolding_all first
      | (refine LCg.CompRest.succ ?_; intro v' I' oI' C' oC' D' m' h' tk' E' hv' hC' hx' F' N' off' ne'; (first | lcg_open hv' | (obtain ⟨t9', hv9'⟩ := hv'; subst hv9')))
      | refine LCg.CompRest.zero ?_))
  (k_with "FinE" => ((unfold LCg.FinE); intro D' h' tk' F' N' o1'; (try dsimp only [List.nil_append, List.cons_append] at N'); (try dsimp only)))
  (k_with "UnrEndW" => (k_dflt ktu_end))
  (k_with "assign Tuple" => (k_here; (with_reducible show wpAny _ _ (assign (Expr.Tuple _ _ _) _ (Value.ref _)) _ _ _); k_dflt (refine unpackN_ (by k_asm) (by k_asm) (by exact IsTup.keeps (by assumption) (Fr.keep (by k_asm))) (by exact rfl) (by exact rfl) (by exact rfl) ?_); intro h' F' N'; (try k_sweep)))
  (k_with "subscriptTail Name Constant ref int" => (k_here; (with_reducible show wpAny _ _ (subscriptTail _ _ (Value.ref _) (Value.int _ _)) _ _ _); k_dflt (refine itemB (by k_asm) (by assumption) (by decide) (by decide) (by rfl) ?_ (by with_unfolding_all rfl))))
  (k_with "subscriptTail Name Slice ref ref" => (k_here; (with_reducible show wpAny _ _ (subscriptTail _ (PySem.Expr.Slice (some _) none none _) (Value.ref _) (Value.ref _)) _ _ _); k_dflt (first | (refine kmk_slice_lit (by k_asm) (by k_asm) (by exact News.isList (by k_asm) (by k_mem)) (by kmk_part) (by kmk_part) (by exact drop6) ?_ (by with_unfolding_all rfl) (by kmk_pure) (by (simp only [List.size_toArray, List.length_cons]; exact room24 (by omega)))) | (refine kmk_slice_lit (by k_asm) (by k_asm) (by exact Fr.lst (by k_asm) (by assumption)) (by kmk_part) (by kmk_part) (by exact drop1) ?_ (by with_unfolding_all rfl) (by kmk_pure) (by (simp only [List.size_toArray, List.length_cons]; exact Nat.le_trans (by omega) (Nat.le_of_ble_eq_true (rfl : Nat.ble 1048577 sizeLine = true)))))); intro D' h' F' N' l1; (try k_lt l1); (try k_sweep)))
  (k_with "exec For Tuple Subscript cons nil" => (k_here; (rename Fr _ _ _ _ => lF'); (with_unfolding_all refine' For_turns lF' ?_; k_whole)))
  (k_with "pyIter ref" => (k_here; (with_reducible show wpAny _ _ (pyIter (Value.ref _)) (fun it s₂ => TurnsAt _ _ _ _ _ (Expr.Tuple _ _ _) _ _ _ it s₂) _ _); refine Mine.halt ?_))
  (k_with "RTail" => (k_dflt (refine tail_backR (by assumption) (by assumption) (by assumption) (by exact List.forall_mem_nil _) ?_; intro kN2 hsep2; (try dsimp only [List.cons_append, List.nil_append] at kN2))))
  (k_with "exec Raise some none" => (k_here; k_dflt (refine Raise_K (by assumption) (by assumption) rfl ?_)))
  (k_with "call ref" => (k_here; (with_reducible show wpAny _ _ (call (Value.ref 52) _ _) _ _ _); k_dflt (refine fe_K (by k_asm) (by k_asm) (by k_asm) ?_; (intro h' tk' e' da' ta' b0' b1' b2' x1' x2' x3' F' N' ne'); (try k_sweep))))
  (k_with "call builtin:str.join" => (k_here; (with_reducible show wpAny _ _ (call (Value.builtin "str.join") [Value.str _ _, Value.ref _] _) _ _ _); k_dflt (refine join_listW (by exact News.isList (by k_asm) (by k_mem)) (by assumption) (by decide +kernel) (by omega) ?_); intro t' k'))
  have hf := fill w
  revert hf
  k_fill
  intro _
  have hto : ∀ p ∈ tl, p.1 ≠ L ∧ h₀.get? p.1 = none := fun p hp => (N p (List.mem_append.mpr (.inr hp))).2
  dsimp only [rX, List.cons_append, List.nil_append] at N hsep
  refine wpAny_call ?_
  refine' code_frame (E := []) (tl := tl) B F KX N T ?kA ?kF ?kK ?k6 ?k7 ?k8 ?k9 ?kB ?kS hsep ?_ ?c2 ?c3 ?c4 ?c5
  (case kA => exact rfl); (case kF => exact rfl); (case kK => exact rfl); (case k6 => k_is); (case k7 => k_is); (case k8 => k_room); (case k9 => first | exact BindsTo.of_eq rfl | exact binds_K (by k_in) rfl (by k_is) rfl rfl rfl); (case c5 => decide); (case kB => exact locs rfl); (case c2 => exact rfl); (case c3 => exact rfl); (case c4 => exact rfl); (case kS => (repeat (first | exact Spl.base | apply Spl.cons)))
  intro g' L' h' FG' F' N' B' X' T' l1 hT'
  have hT := hT' g' (fun _ _ e => e) (List.forall_mem_nil _)
  k_lt l1
  clear N hT'
  have c1 : IsTup g' a5 [Value.int 47 z5, Value.ref w5].toArray := ⟨_, hT _ p5, rfl, _, rfl⟩
  have c2 : g'.IsList w5 [Value.str (Str.ofString ".end") s5].toArray := ⟨_, hT _ q5, rfl, _, rfl⟩
  (try dsimp only); (try k_lift B'); (try k_fold)
  k_steps
  rename Fr _ _ _ _ => F1
  rename News _ _ _ _ => N1
  refine Halt.mk ?_
  refine iter_listTurns (lo := listOf tvs.toArray 0) (vs := tvs) (n := 0) rfl F1 N1 (.head _) rfl rfl (fun I lI => ?_)
  clear F1 N1
  k_lt lI
  refine items_m (rowMk_self _) ?_
  refine items_ind (tl := tl) (J := fun rs => rs.find? opens = tail.find? opens ∧ (∀ x ∈ rs, x.2 ≠ []) ∧ (∀ x ∈ rs, (x.2.map (·.length)).sum + x.2.length ≤ 1000000)) ?done ?turn hR ⟨rfl, hne, hwt⟩ _ _
  case done =>
    intro hJ M1 M2
    refine ItemsRest.zero (fun h2 tk2 F2 N2 => ?_)
    k_steps
    dsimp only
    refine kQ (by rw [← hJ.1]; rfl) ?z1 ?z2
    (case z1 => with_reducible assumption)
    (case z2 => refine newsOf (by assumption) ?_; (dsimp only [rX, List.cons_append, List.nil_append]; intro p hp; revert p; kcf_all))
  case turn =>
    intro ta wa b t n wn wvs ws vs rs p1 p2 hS hJ ih M1 M2
    obtain ⟨w0, ws', t0', wv', rfl, rfl, hS'⟩ := strs_ne hS (hJ.2.1 _ (.head _))
    have hw := hJ.2.2 _ (.head _)
    simp only [List.map_cons, List.sum_cons, List.length_cons] at hw
    have hwl := hS'.length
    have hS'' : StrsAre wv'.toArray.toList ws' := by simpa using hS'
    have d1 : IsTup g' ta [Value.int b t, Value.ref wa].toArray := ⟨_, hT _ p1, rfl, _, rfl⟩
    have d2 : g'.IsList wa (Value.str w0 t0' :: wv').toArray := ⟨_, hT _ p2, rfl, _, rfl⟩
    obtain ⟨nm', q', Nn, bs, bm, hdct, sn, sub, ab, col, dd', k0', k1', k2', k3', k5', nId, hC0, hCb⟩ := cls52 w.params
    refine ItemsRest.val (fun h2 tk2 F2 => ?_)
    ktu_objs
    k_steps
    · have F9 := F'
      have N9 := N'
      have ne9 := ne'
      rename ((_ == _) = true) => hm
      have hfind : tail.find? opens = some (b, w0 :: ws') := by rw [← hJ.1]; exact List.find?_cons_of_pos (by exact hm)
      refine Stop.mk ⟨_, _, _, rfl, X'.keeps F9.keep, (N9 _ (.head _)).1, ?_⟩
      refine raise_end (ex := ex) B' F9 N9 ne9 (ex_up rfl F hex FG'.keep) (fun h3 R3 U3 => ?_)
      exact kE b _ hfind FG' U3 R3
    · refine items_m rowMk_twice (ih ⟨?_, fun x hx => hJ.2.1 x (.tail _ hx), fun x hx => hJ.2.2 x (.tail _ hx)⟩ _ _)
      rw [← hJ.1]
      exact (List.find?_cons_of_neg (by show ¬ ((w0 == Str.ofString ".model") = true); first | assumption | (rw [Bool.not_eq_true]; assumption))).symm
end Mine
end
section
open PySem PySem.W PyProof.Rows PyProof.V
namespace Mine
theorem sep_of_low {tl X : List (Addr × Obj)} {ra : Nat} (h1 : ∀ q ∈ tl, @LT.lt Nat _ ra q.1) (h2 : ∀ p ∈ X, @LE.le Nat _ p.1 ra) : Sep [] tl X := fun q hq p hp e =>
  absurd (Nat.lt_of_lt_of_le (h1 q hq) (e ▸ h2 p hp)) (Nat.lt_irrefl _)
theorem objs_ne {h₀ h : Heap} {L : Addr} {led : List (Addr × Obj)} (N : News h₀ L h led) {p q : Addr × Obj} (hp : p ∈ led) (hq : q ∈ led) (hc : p.2.cls ≠ q.2.cls) : @Ne Nat p.1 q.1 := fun e => by
  have h1 := (N p hp).1
  have h2 := (N q hq).1
  rw [e, h2] at h1
  exact hc (congrArg Obj.cls (Option.some.inj h1)).symm
/-- what read_blif gives back: the netlist and all that hangs on it -/
abbrev resX (w : World) (t0 t1 t2 t3 t4 t5 t6 : Nat) (nl nd li lo lc it il o2 l2 ct ci : Addr) (y0 y1 y2 y3 y4 y5 y6 y7 y8 y9 z0 z1 z2 z3 z4 z5 z6 : Nat) : List (Addr × Obj) :=
  [(nl, instObj 127 nd), (nd, nlD w t0 t1 t2 t3 t4 t5 t6 (Str.ofString "top") 4 li lo lc), (li, listOf #[.ref it] y0), (it, { cls := .type "tuple", data := .seq #[.str (Str.ofString "x") y1, .ref il] y2 }), (il, listOf #[.int 2 y3] y4),
    (lo, listOf #[.ref o2] y5), (o2, { cls := .type "tuple", data := .seq #[.str (Str.ofString "y") y6, .ref l2] y7 }), (l2, listOf #[.int 3 y8] y9),
    (lc, listOf #[.ref ct] z0), (ct, { cls := .type "tuple", data := .seq #[.str (Str.ofString "lut") z1, .int 3 z2, .ref ci, .int 1 z3] z4 }), (ci, { cls := .type "tuple", data := .seq #[.int 2 z5] z6 })]
theorem low_cons {tl : List (Addr × Obj)} {ra : Nat} {p : Addr × Obj} (hp : @LT.lt Nat _ ra p.1) (h : ∀ q ∈ tl, @LT.lt Nat _ ra q.1) : ∀ q ∈ p :: tl, @LT.lt Nat _ ra q.1 := fun q hq => by
  rcases List.mem_cons.mp hq with rfl | hq
  · exact hp
  · exact h q hq
theorem app_mem {p : Addr × Obj} {X tl : List (Addr × Obj)} (h : p ∈ tl) : p ∈ X ++ tl := List.mem_append.mpr (.inr h)
#guard_msgs (drop info, drop warning) in
set_option maxRecDepth 100000 in
set_option maxHeartbeats 8000000 in
theorem rb_spec {w : World} {nm : Str} {nms : List (Str × NameKind)} {ig ic : Bool} {mo : List (Str × Const)} {a : Addr} {cd : Value} {base h₀ : Heap} {L : Addr} {m mg mb : Str → Option Value} {mean : ExcName → Option Value} {E Q : Value → Shared → Prop} {s : Shared}
    {news : List (Addr × Obj)} {W : Str} {t : Tok} {tail : List (Int × List Str)}
    (B : Below callerA base [] h₀) (F : Fr h₀ L s.heap m) (KX : (top.heap_1 w.params).In h₀) (N : News h₀ L s.heap news)
    {q9 : Program} {lo9 : List Str} (T : Top q9 lo9 mean mg mb h₀)
    (hW : W.length ≤ 2000) (hrows : rowsOf W = base6 ++ tail) (hlen : tail.length ≤ 4001) (hne : ∀ x ∈ tail, x.2 ≠ []) (hwt : ∀ x ∈ tail, (x.2.map (·.length)).sum + x.2.length ≤ 1000000)
    {ex : List (Addr × Obj)} (hex : ∀ q ∈ ex, q ∈ news) (hexb : ∀ q ∈ ex, base.get? q.1 = none)
    (kQ : tail.find? opens = none → ∀ {h' : Heap} {tk' t0 t1 t2 t3 t4 t5 t6 y0 y1 y2 y3 y4 y5 y6 y7 y8 y9 z0 z1 z2 z3 z4 z5 z6 : Nat} {nl nd li lo lc it il o2 l2 ct ci : Addr}, Fr h₀ L h' m →
      News h₀ L h' (resX w t0 t1 t2 t3 t4 t5 t6 nl nd li lo lc it il o2 l2 ct ci y0 y1 y2 y3 y4 y5 y6 y7 y8 y9 z0 z1 z2 z3 z4 z5 z6 ++ news) → Q (.ref nl) { s with heap := h', toks := tk' })
    (kE : ∀ b ws, tail.find? opens = some (b, ws) → ∀ {h' g : Heap} {tk' : Nat} {e da : Addr} {x1 x2 x3 : Int} {b0 b1 b2 t1 t2 t3 : Nat}, Fr h₀ L g m → g.UpToSlots h' →
      RaisedD 52 base [envOf nm ⟨.function, nms, ig, ic, mo⟩ L a cd] e da ((da, exD x1 x2 x3 b0 b1 b2 t1 t2 t3 b (Txt.join (Str.ofString " ") (ws.drop 1))) :: ex) h' → E (.ref e) { s with heap := h', toks := tk' }) :
    wpAny (model progB w) (callerA.deeper (envOf nm ⟨.function, nms, ig, ic, mo⟩ L a cd)) (call (.ref 249) [.str W t]) Q E s := by
  k_with_none
  (k_with "kcf_all" => (first | exact sub_nil | exact fun _ hp => hp | (refine sub_cons ?_ ?_; (focus kcf_m); k_extra "kcf_all")))
  (k_with "ap" => ((repeat (first | ((with_reducible refine Ap.here ?_); k_mem; done) | ((with_reducible refine Ap.back ?_); k_mem; done) | (with_reducible refine Ap.there ?_))); done))
  (k_with "bf" => ((repeat (first | ((with_reducible refine Bf.here ?_); k_mem; done) | (with_reducible refine Bf.there ?_))); done))
  (k_with "ltn" => (first | with_reducible assumption | exact lt_nw (by with_reducible assumption) (by k_mem) | exact lt_nw2 (by with_reducible assumption) (by with_reducible assumption) (by k_mem) | (refine bf_lt (by with_reducible assumption) ?_; k_extra "bf") | omega))
  (k_with "cj" => ((rename (_ ∧ _ ∧ _) => hcj9); first | exact hcj9.1 | exact (hcj9.1).symm | exact hcj9.2.1 | exact (hcj9.2.1).symm | exact hcj9.2.2.1 | exact (hcj9.2.2.1).symm | exact hcj9.2.2.2.1 | exact (hcj9.2.2.2.1).symm | exact hcj9.2.2.2.2.1 | exact (hcj9.2.2.2.2.1).symm | exact hcj9.2.2.2.2.2.1 | exact (hcj9.2.2.2.2.2.1).symm | exact hcj9.2.2.2.2.2.2.1 | exact (hcj9.2.2.2.2.2.2.1).symm | exact hcj9.2.2.2.2.2.2.2.1 | exact (hcj9.2.2.2.2.2.2.2.1).symm | exact hcj9.2.2.2.2.2.2.2.2.1 | exact (hcj9.2.2.2.2.2.2.2.2.1).symm | exact hcj9.2.2.2.2.2.2.2.2.2.1 | exact (hcj9.2.2.2.2.2.2.2.2.2.1).symm | exact hcj9.2.2.2.2.2.2.2.2.2.2.1 | exact (hcj9.2.2.2.2.2.2.2.2.2.2.1).symm | exact hcj9.2.2.2.2.2.2.2.2.2.2.2.1 | exact (hcj9.2.2.2.2.2.2.2.2.2.2.2.1).symm | exact hcj9.2.2.2.2.2.2.2.2.2.2.2.2.1 | exact (hcj9.2.2.2.2.2.2.2.2.2.2.2.2.1).symm | exact hcj9.2.2.2.2.2.2.2.2.2.2.2.2.2.1 | exact (hcj9.2.2.2.2.2.2.2.2.2.2.2.2.2.1).symm | exact hcj9.2.2.2.2.2.2.2.2.2.2.2.2.2.2.1 | exact (hcj9.2.2.2.2.2.2.2.2.2.2.2.2.2.2.1).symm | exact hcj9.2.2.2.2.2.2.2.2.2.2.2.2.2.2.2.1 | exact (hcj9.2.2.2.2.2.2.2.2.2.2.2.2.2.2.2.1).symm | exact hcj9.2.2.2.2.2.2.2.2.2.2.2.2.2.2.2.2.1 | exact (hcj9.2.2.2.2.2.2.2.2.2.2.2.2.2.2.2.2.1).symm | exact hcj9.2.2.2.2.2.2.2.2.2.2.2.2.2.2.2.2.2.1 | exact (hcj9.2.2.2.2.2.2.2.2.2.2.2.2.2.2.2.2.2.1).symm | exact hcj9.2.2.2.2.2.2.2.2.2.2.2.2.2.2.2.2.2.2.1 | exact (hcj9.2.2.2.2.2.2.2.2.2.2.2.2.2.2.2.2.2.2.1).symm | exact hcj9.2.2.2.2.2.2.2.2.2.2.2.2.2.2.2.2.2.2.2.1 | exact (hcj9.2.2.2.2.2.2.2.2.2.2.2.2.2.2.2.2.2.2.2.1).symm | exact hcj9.2.2.2.2.2.2.2.2.2.2.2.2.2.2.2.2.2.2.2.2.1 | exact (hcj9.2.2.2.2.2.2.2.2.2.2.2.2.2.2.2.2.2.2.2.2.1).symm | exact hcj9.2.2.2.2.2.2.2.2.2.2.2.2.2.2.2.2.2.2.2.2.2.1 | exact (hcj9.2.2.2.2.2.2.2.2.2.2.2.2.2.2.2.2.2.2.2.2.2.1).symm | exact hcj9.2.2.2.2.2.2.2.2.2.2.2.2.2.2.2.2.2.2.2.2.2.2.1 | exact (hcj9.2.2.2.2.2.2.2.2.2.2.2.2.2.2.2.2.2.2.2.2.2.2.1).symm | exact hcj9.2.2.2.2.2.2.2.2.2.2.2.2.2.2.2.2.2.2.2.2.2.2.2.1 | exact (hcj9.2.2.2.2.2.2.2.2.2.2.2.2.2.2.2.2.2.2.2.2.2.2.2.1).symm | exact hcj9.2.2.2.2.2.2.2.2.2.2.2.2.2.2.2.2.2.2.2.2.2.2.2.2.1 | exact (hcj9.2.2.2.2.2.2.2.2.2.2.2.2.2.2.2.2.2.2.2.2.2.2.2.2.1).symm | exact hcj9.2.2.2.2.2.2.2.2.2.2.2.2.2.2.2.2.2.2.2.2.2.2.2.2.2.1 | exact (hcj9.2.2.2.2.2.2.2.2.2.2.2.2.2.2.2.2.2.2.2.2.2.2.2.2.2.1).symm))
  (k_with "k_ne" => ((show @Ne Nat _ _); (try dsimp only); first | with_reducible assumption | exact ne_nw (by with_reducible assumption) (by k_mem) | exact (ne_nw (by with_reducible assumption) (by k_mem)).symm | exact le1_ne (by with_reducible assumption) (by with_reducible assumption) (by k_mem) | exact (le1_ne (by with_reducible assumption) (by with_reducible assumption) (by k_mem)).symm | exact Nat.ne_of_lt (by with_reducible assumption) | exact Nat.ne_of_gt (by with_reducible assumption) | exact Ne.symm (by with_reducible assumption) | (refine ap_ne (by with_reducible assumption) ?_; k_extra "ap") | exact leE_ne (by with_reducible assumption) (by with_reducible assumption) (by k_mem) (by k_mem) | exact (leE_ne (by with_reducible assumption) (by with_reducible assumption) (by k_mem) (by k_mem)).symm | exact ne_nw2 (by with_reducible assumption) (by with_reducible assumption) (by k_mem) | exact (ne_nw2 (by with_reducible assumption) (by with_reducible assumption) (by k_mem)).symm | exact off1_ne (by with_reducible assumption) (by k_mem) | exact (off1_ne (by with_reducible assumption) (by k_mem)).symm | exact off3_I (by with_reducible assumption) (by k_mem) | exact (off3_I (by with_reducible assumption) (by k_mem)).symm | exact off3_C (by with_reducible assumption) (by k_mem) | exact (off3_C (by with_reducible assumption) (by k_mem)).symm | exact off3_D (by with_reducible assumption) (by k_mem) | exact (off3_D (by with_reducible assumption) (by k_mem)).symm | exact ne_nwS (by with_reducible assumption) (by k_mem) | exact (ne_nwS (by with_reducible assumption) (by k_mem)).symm | exact ne_nwT (by with_reducible assumption) (by k_mem) | exact (ne_nwT (by with_reducible assumption) (by k_mem)).symm | k_extra "cj" | omega))
  (k_with "k_in" => (first | with_reducible assumption | exact Frag.In.keeps (by with_reducible assumption) (Fr.keep (by with_reducible assumption))))
  (k_with "k_all" => (first | exact List.forall_mem_nil _ | (refine all_cons ?_ ?_; (focus k_ne); k_extra "k_all")))
  (k_with "call ref" => (k_here; (with_reducible show wpAny _ _ (call (Value.ref 230) _ _) _ _ _); k_dflt ((refine wpAny_call ?_); refine code_frameR (by exact rfl) (by exact rfl) (by exact rfl) (by k_asm) (by k_asm) (by k_asm) (by k_asm) (by k_asm) (by k_is) (by k_is) (by k_room) (by first | exact BindsTo.of_eq rfl | exact binds_K (by k_in) rfl (by k_is) rfl rfl rfl) (locs rfl) (by assumption) (by (repeat (first | exact Spl.base | apply Spl.cons))) ?_ (by exact rfl) (by exact rfl) (by exact rfl) (by decide); intro g' L' h' FG' F' N' B' X' T' l1 hT'; (try k_lt l1); (try dsimp only); (try k_lift B'); (try k_fold))))
  (k_with "RTail" => (k_dflt (refine tail_backR (by assumption) (by assumption) (by assumption) (by k_extra "kcf_all") ?_; intro kN2 hsep2; (try dsimp only [List.cons_append, List.nil_append] at kN2))))
  (k_with "eval Dict nil nil" => (k_here; k_dflt (refine newDict_K (by k_asm) (by k_asm) (TopRead.nolimit (by k_asm)) ?_); intro d' h' o' F' N' l1 lo' hs' fs' hi' fi'; (try k_lt l1); (try k_sweep)))
  (k_with "exec While Compare cons nil" => (k_here; k_dflt (refine whl_start 7 ?_)))
  (k_with "call builtin:len" => (k_here; (with_reducible show wpAny _ _ (call (Value.builtin "len") [Value.ref _]) _ _ _); k_dflt (refine lenR (by assumption) (by k_asm) (by k_memK) ?_)))
  (k_with "WhlIf" => (k_dflt (first | (refine WhlIf.yes (decide_eq_true (by omega)) ?_) | (refine WhlIf.no (decide_eq_false (by omega)) ?_))))
  (k_with "subscriptTail Name Constant ref int" => (k_here; (with_reducible show wpAny _ _ (subscriptTail _ _ (Value.ref _) (Value.int _ _)) _ _ _); k_dflt (first
      | (refine itemL (by k_asm) (by k_mem) (by decide) (by decide) (by rfl) ?_ (by with_unfolding_all rfl))
      | (refine itemT (by k_asm) (by k_mem) (by decide) (by decide) (by rfl) (by rfl) ?_ (by with_unfolding_all rfl)))))
  (k_with "subscriptTail Name Name ref int" => (k_here; (with_reducible show wpAny _ _ (subscriptTail _ _ (Value.ref _) (Value.int _ _)) _ _ _); k_dflt (first
      | (refine itemL (by k_asm) (by k_mem) (by decide) (by decide) (by rfl) ?_ (by with_unfolding_all rfl))
      | (refine itemT (by k_asm) (by k_mem) (by decide) (by decide) (by rfl) (by rfl) ?_ (by with_unfolding_all rfl)))))
  (k_with "subscriptTail Subscript Constant ref int" => (k_here; (with_reducible show wpAny _ _ (subscriptTail _ _ (Value.ref _) (Value.int _ _)) _ _ _); k_dflt (first
      | (refine itemL (by k_asm) (by k_mem) (by decide) (by decide) (by rfl) ?_ (by with_unfolding_all rfl))
      | (refine itemT (by k_asm) (by k_mem) (by decide) (by decide) (by rfl) (by rfl) ?_ (by with_unfolding_all rfl)))))
  (k_with "subscriptTail" => (k_here; (with_reducible show wpAny _ _ (subscriptTail _ _ (Value.ref _) (Value.int _ _)) _ _ _); k_dflt (first
      | (refine itemL (by k_asm) (by k_mem) (by decide) (by decide) (by rfl) ?_ (by with_unfolding_all rfl))
      | (refine itemT (by k_asm) (by k_mem) (by decide) (by decide) (by rfl) (by rfl) ?_ (by with_unfolding_all rfl)))))
  (k_with "exec For Tuple Call cons nil" => (k_here; (rename Fr _ _ _ _ => lF'); (with_unfolding_all refine' For_turns lF' ?_; k_whole)))
  (k_with "CompSrc" => (k_here; k_dflt (first
      | (refine LCg.CompSrc.ledger (by rfl) (by k_asm) (by k_asm) (by k_mem) (by first | size_fits | exact Nat.le_of_ble_eq_true rfl) ?_; intro g'; lcg_lit)
      | (refine LCg.CompSrc.base (by rfl) (by k_asm) (by k_asm) (by assumption) (by first | size_fits | exact Nat.le_of_ble_eq_true rfl) ?_; intro g'; lcg_lit)
      | (refine LCg.CompSrc.range (by rfl) (by k_asm) (by k_asm) (by assumption) (by first | decide | rfl) (by first | rfl | decide) (by first | size_fits | exact Nat.le_of_ble_eq_true rfl) ?_; intro g'; lcg_lit))))
  (k_with "callWith ref" => (k_here; (with_reducible show wpAny _ _ (callWith _ (Value.ref _) _ (backTo _ (starEach [] _)) []) _ _ _); k_dflt (refine callWith_K0 (by k_in) (by k_is) ?_)))
  (k_with "CompRest" => (with_unfolding_all first
      | (refine LCg.CompRest.succ ?_; intro v' I' oI' C' oC' D' m' h' tk' E' hv' hC' hx' F' N' off' ne'; (first | lcg_open hv' | (obtain ⟨t9', hv9'⟩ := hv'; subst hv9')))
      | refine LCg.CompRest.zero ?_))
  (k_with "FinE" => ((unfold LCg.FinE); intro D' h' tk' F' N' o1'; (try dsimp only [List.nil_append, List.cons_append] at N'); (try dsimp only)))
  (k_with "UnrEndW" => (k_dflt ktu_end))
  (k_with "call ref" => (k_here; (with_reducible show wpAny _ _ (call (Value.ref 238) _ _) _ _ _); refine Mine.halt ?_))
  (k_with "call ref" => (k_here; (with_reducible show wpAny _ _ (call (Value.ref 145) _ _) _ _ _); refine Mine.halt ?_))
  (k_with "call ref" => (k_here; (with_reducible show wpAny _ _ (call (Value.ref 230) _ _) _ _ _); refine Mine.halt ?_))
  (k_with "call ref" => (k_here; (with_reducible show wpAny _ _ (call (Value.ref 235) _ _) _ _ _); refine Mine.halt ?_))
  (k_with "RTail" => (k_dflt (refine tail_backR (by assumption) (by assumption) (by assumption) (by exact List.forall_mem_nil _) ?_; intro kN2 hsep2; (try dsimp only [List.cons_append, List.nil_append] at kN2))))
  have hf := fill w
  revert hf
  k_fill
  intro _
  have hto : ∀ p ∈ news, p.1 ≠ L ∧ h₀.get? p.1 = none := fun p hp => (N p hp).2
  refine wpAny_call ?_
  refine' code_frame (E := []) (tl := news) (X := []) B F KX N T ?kA ?kF ?kK ?k6 ?k7 ?k8 ?k9 ?kB .base sep_nil ?_ ?c2 ?c3 ?c4 ?c5
  (case kA => exact rfl); (case kF => exact rfl); (case kK => exact rfl); (case k6 => k_is); (case k7 => k_is); (case k8 => k_room); (case k9 => exact BindsTo.of_eq rfl); (case c5 => decide); (case kB => exact locs rfl); (case c2 => exact rfl); (case c3 => exact rfl); (case c4 => exact rfl)
  intro g' L' h' FG' F' N' B' X' T' l1 hT'
  have hT := hT' g' (fun _ _ e => e) (List.forall_mem_nil _)
  have hex2 : ∀ q ∈ ex, g'.get? q.1 = some q.2 ∧ base.get? q.1 = none ∧ (envOf nm ⟨.function, nms, ig, ic, mo⟩ L a cd).frame ≠ some q.1 := fun q hq => ⟨hT q (hex q hq), hexb q hq, fun z => (hto q (hex q hq)).1 (Option.some.inj z).symm⟩
  clear hT' l1 hT
  (try dsimp only); (try k_lift B'); (try k_fold)
  k_steps
  rename Fr _ _ _ _ => F1
  rename News _ _ _ _ => N1
  refine Halt.mk ?_
  refine bi_spec (by assumption) F1 (by assumption) N1 (by assumption) ?_
  intro h1 tk1 t0 t1 t2 t3 t4 t5 t6 u0 u1 u2 u3 u4 u5 v0 v1 rd r nd nl li lo lc dn dd lO dp on od op F2 N2 hl mdn mdd mdp dop don fon dod fod
  clear F1 N1
  k_steps
  rename Fr _ _ _ _ => F1
  rename News _ _ _ _ => N1
  refine Halt.mk ?_
  refine wr_spec (by assumption) F1 (by assumption) N1 (by assumption) hW ?_
  intro h2 tk2 ra rvs rn tl hR htl hnews F3 N3
  clear F1 N1
  rw [hrows] at hR
  refine sixRows hR ?_
  intro a0 a1 a2 a3 a4 a5 w0 w1 w2 w3 w4 w5 t0' t1' t2' t3' t4' t5' n0 n1 n2 n3 n4 n5 k0 k1 k2 k3 k4 k5 s0 s0' s1 s1' s2 s2' s3 s3' s3'' s4 s4' s5 tvs hrv9 hTl p0 q0 p1 q1 p2 q2 p3 q3 p4 q4 p5 q5
  subst hrv9
  have hra : @LT.lt Nat _ dp ra := hnews _ (.head _)
  have htv : tvs.length ≤ 4001 := by rw [hTl.length]; exact hlen
  clear hnews hR
  have N4 := newsOf N3 (l' := rX w t0 t1 t2 t3 t4 t5 t6 (Str.ofString "") 2 u0 u1 u2 u3 u4 u5 false rd r nd nl li lo lc dn dd lO dp ra on od op (listOf #[] 0) (listOf #[] 0) (listOf #[] 0) (listOf #[] 0) (listOf (.ref a0 :: .ref a1 :: .ref a2 :: .ref a3 :: .ref a4 :: .ref a5 :: tvs).toArray rn) ++ tl) (fun p hp => by
    simp only [rX, List.mem_cons, List.mem_append, List.not_mem_nil, or_false] at hp ⊢
    rcases hp with (h | h | h | h | h | h | h | h | h | h | h | h) | h <;> simp only [h, true_or, or_true])
  have e0 := objs_ne N4 (app_mem p0) (app_mem q0) (by simp)
  have e1 := objs_ne N4 (app_mem p1) (app_mem q1) (by simp)
  have e2 := objs_ne N4 (app_mem p2) (app_mem q2) (by simp)
  have e4 := objs_ne N4 (app_mem p4) (app_mem q4) (by simp)
  clear N3
  k_steps
  rename Fr _ _ _ _ => F1
  rename News _ _ _ _ => N1
  refine Halt.mk ?_
  refine r0_spec (tl := tl) (by assumption) F1 (by assumption) N1 (by assumption) hl hra (htl _ p0) (htl _ q0) e0 (sep_of_low htl (rX_le hl hra)) p0 q0 ?_
  clear F1 N1
  (try clear N4); (try clear F2); (try clear N2); (try clear F3)
  intro h3 tk3 t0 t1 t2 t3 t4 t5 t6 u0 u1 u2 u3 u4 u5 z0 F3 N3 _
  k_steps
  rename Fr _ _ _ _ => F1
  rename News _ _ _ _ => N1
  refine Halt.mk ?_
  refine r1_spec (tl := tl) (c := 0) (x1 := 0) (x2 := 0) (by assumption) F1 (by assumption) N1 (by assumption) hl hra (htl _ p1) (htl _ q1) e1 (sep_of_low htl (rX_le hl hra)) p1 q1 mdn mdd don fon dod fod ?_
  clear F1 N1 don fon dod fod
  intro h4 tk4 t0 t1 t2 t3 t4 t5 t6 u0 u1 u2 u3 u4 u5 z0 y0 y1 y2 y3 y4 v0 v1 v2 it il on od F4 N4 _ lit lil don fon dod fod
  have htl1 := low_cons (p := (it, ({ cls := .type "tuple", data := .seq #[.str (Str.ofString "x") y1, .ref il] y2 } : Obj))) lit (low_cons (p := (il, listOf #[.int 2 y3] y4)) lil htl)
  k_steps
  rename Fr _ _ _ _ => F1
  rename News _ _ _ _ => N1
  refine Halt.mk ?_
  refine r2_spec (tl := _ :: _ :: tl) (by assumption) F1 (by assumption) N1 (by assumption) hl hra (htl _ p2) (htl _ q2) e2 (sep_of_low htl1 (rX_le hl hra)) (.tail _ (.tail _ p2)) (.tail _ (.tail _ q2)) mdp dop ?_
  clear F1 N1
  intro h5 tk5 t0 t1 t2 t3 t4 t5 t6 u0 u1 u2 u3 u4 u5 z0 y5 y6 y7 y8 y9 v3 ot bl op2 F5 N5 _ lot lbl _ _
  have htl2 := low_cons (p := (ot, ({ cls := .type "tuple", data := .seq #[.str (Str.ofString "y") y6, .ref bl] y7 } : Obj))) lot (low_cons (p := (bl, listOf #[.str (Str.ofString "y") y8] y9)) lbl htl1)
  k_steps
  rename Fr _ _ _ _ => F1
  rename News _ _ _ _ => N1
  refine Halt.mk ?_
  refine r3_spec (E6 := [(a3, rowObj 32 t3' w3 n3), (w3, listOf [Value.str (Str.ofString ".names") s3, Value.str (Str.ofString "x") s3', Value.str (Str.ofString "y") s3''].toArray k3), (a4, rowObj 43 t4' w4 n4), (w4, listOf [Value.str (Str.ofString "0") s4, Value.str (Str.ofString "1") s4'].toArray k4), (a5, rowObj 47 t5' w5 n5), (w5, listOf [Value.str (Str.ofString ".end") s5].toArray k5)]) (tl := _ :: _ :: _ :: _ :: tl) (by assumption) F1 (by assumption) htv N1 (by assumption) hl hra (sep_of_low htl2 (rX_le hl hra)) rfl ?_ ?_ e4 mdn mdd don fon dod fod ?_
  · intro p hp
    simp only [List.mem_cons, List.not_mem_nil, or_false] at hp ⊢
    rcases hp with rfl | rfl | rfl | rfl | rfl | rfl <;> simp only [p3, q3, p4, q4, p5, q5, or_true]
  · intro p hp
    simp only [List.mem_cons, List.not_mem_nil, or_false] at hp
    rcases hp with rfl | rfl | rfl | rfl | rfl | rfl
    · exact htl _ p3
    · exact htl _ q3
    · exact htl _ p4
    · exact htl _ q4
    · exact htl _ p5
    · exact htl _ q5
  clear F1 N1 don fon dod fod
  intro h6 tk6 t0 t1 t2 t3 t4 t5 t6 u0 u1 u2 u3 u4 u5 z0 g0 g1 g2 g3 g4 g5 g6 v0 v1 v2 v3 ct ci on od F6 N6 _ lct lci don fon dod fod
  have htl3 := low_cons (p := (ct, ({ cls := .type "tuple", data := .seq #[.str (Str.ofString "lut") g1, .int 3 g2, .ref ci, .int 1 g3] g4 } : Obj))) lct (low_cons (p := (ci, ({ cls := .type "tuple", data := .seq #[.int 2 g5] g6 } : Obj))) lci htl2)
  k_steps
  rename Fr _ _ _ _ => F1
  rename News _ _ _ _ => N1
  refine Halt.mk ?_
  refine r5_spec (tl := _ :: _ :: _ :: _ :: _ :: _ :: tl) (ex := ex) (by assumption) F1 (by assumption) htv N1 (by assumption) (sep_of_low htl3 (rX_le hl hra)) (.tail _ (.tail _ (.tail _ (.tail _ (.tail _ (.tail _ p5)))))) (.tail _ (.tail _ (.tail _ (.tail _ (.tail _ (.tail _ q5)))))) (hTl.mono fun p hp => .tail _ (.tail _ (.tail _ (.tail _ (.tail _ (.tail _ hp)))))) hne hwt hex2 ?_ ?_
  rotate_left
  · clear F1 N1
    intro b ws hfind h7 gg tk7 e da x1 x2 x3 b0 b1 b2 d1 d2 d3 F7 U7 R7
    refine leave_onD (C := 52) B' F7 R7 U7 (fun h9 R9 U9 => ?_)
    exact kE b ws hfind FG' U9 R9
  clear F1 N1
  intro hnone h7 tk7 z0 F7 N7
  k_steps
  rename Fr _ _ _ _ => F1
  rename News _ _ _ _ => N1
  refine Halt.mk ?_
  refine f_spec (E6 := [(ot, { cls := .type "tuple", data := .seq #[.str (Str.ofString "y") y6, .ref bl] y7 }), (bl, listOf #[.str (Str.ofString "y") y8] y9)]) (tl := _ :: _ :: _ :: _ :: _ :: _ :: tl) (by assumption) F1 (by assumption) N1 (by assumption) hl hra (sep_of_low htl3 (rX_le hl hra)) rfl ?_ ?_ mdn mdd don fon dod fod ?_
  · intro p hp
    simp only [List.mem_cons, List.not_mem_nil, or_false] at hp ⊢
    rcases hp with rfl | rfl <;> simp only [true_or, or_true]
  · intro p hp
    simp only [List.mem_cons, List.not_mem_nil, or_false] at hp
    rcases hp with rfl | rfl
    · exact lot
    · exact lbl
  clear F1 N1
  intro h8 tk8 t0 t1 t2 t3 t4 t5 t6 u0 u1 u2 u3 u4 u5 j0 j1 j2 j3 j4 o2 l2 F8 N8
  k_steps
  dsimp only
  rename News _ _ _ _ => N9
  refine @kQ hnone _ _ t0 t1 t2 t3 t4 t5 t6 y0 y1 y2 y3 y4 j0 j1 j2 j3 j4 g0 g1 g2 g3 g4 g5 g6 nl nd li lo lc it il o2 l2 ct ci ?z1 ?z2
  (case z1 => with_reducible assumption)
  (case z2 => refine newsOf N9 ?_; intro p hp; rcases List.mem_append.mp hp with hp | hp; (clear N9; simp only [resX, List.mem_cons, List.not_mem_nil, or_false] at hp; (try dsimp only [List.cons_append, List.nil_append]); rcases hp with rfl | rfl | rfl | rfl | rfl | rfl | rfl | rfl | rfl | rfl | rfl <;> k_mem); (simp only [rX, List.cons_append, List.nil_append, List.append_assoc, List.mem_cons, List.mem_append, hp, or_true]))
end Mine
end
section
open PySem PySem.W PyProof.Rows PyProof.V
namespace Mine
def menu : List (Str × Str) := [(Str.ofString "nothing here", Str.ofString ""), (Str.ofString "# .model b", Str.ofString ""), (Str.ofString ".names u y", Str.ofString ""), (Str.ofString ".end", Str.ofString ""), (Str.ofString ".model b", Str.ofString "b"), (Str.ofString ".model", Str.ofString "-"), (Str.ofString ".model b c", Str.ofString "b c"), (Str.ofString ".model \\\n  b2", Str.ofString "b2"), (Str.ofString "x .model", Str.ofString ""), (Str.ofString ".inputs x", Str.ofString ""), (Str.ofString "  .model b3 # c", Str.ofString "b3"), (Str.ofString "", Str.ofString "")]
def dueNext (W : Str) (due : Option (Int × Str)) (wd : Str) : Option (Int × Str) := match due with
  | some d => some d
  | none => if wd = Str.ofString "" then none else some ((W.length : Int), if wd = Str.ofString "-" then Str.ofString "" else wd)
/-- what the law's loop has written after i turns -/
inductive Reach (W0 : Str) : Str → Option (Int × Str) → Nat → Prop
  | start : Reach W0 W0 none 0
  | step {W : Str} {due : Option (Int × Str)} {i : Nat} {r wd : Str} : Reach W0 W due i → (r, wd) ∈ menu → Reach W0 (W ++ (r ++ Str.ofString "\n")) (dueNext W due wd) (i + 1)
theorem menu_short : ∀ p ∈ menu, p.1.length ≤ 20 ∧ p.2.length ≤ 20 := by
  have h : (menu.all fun p => decide (p.1.length ≤ 20) && decide (p.2.length ≤ 20)) = true := by decide +kernel
  intro p hp
  have := List.all_eq_true.mp h p hp
  simpa using this
theorem Reach.short {W0 W : Str} {due : Option (Int × Str)} {i : Nat} (h : Reach W0 W due i) : W.length ≤ W0.length + 21 * i := by
  induction h with
  | start => omega
  | step _ hm ih =>
    have h1 := (menu_short _ hm).1
    dsimp only at h1
    have h2 : (Str.ofString "\n").length = 1 := by decide +kernel
    simp only [Str.length_append]
    omega
theorem ws_le {a b i n : Nat} (h : a ≤ b + 21 * i) (hb : b ≤ 80) (hi : i < n) (hn : n ≤ 5) : a ≤ 200 := by omega
theorem ws_le' {a b n : Nat} (h : a ≤ b + 21 * n) (hb : b ≤ 80) (hn : n ≤ 5) : a ≤ 2000 := by omega
structure LS where
  W : Str
  tW : Tok
  due : Option (Int × Str)
  dv : Value
  nw : List (Addr × Obj)
  s1 : Option Value
  s2 : Option Value
  s3 : Option Value
  s4 : Option Value
abbrev lawM (m₀ : Str → Option Value) (st : LS) : Str → Option Value := fun y =>
  if y = Str.ofString "wide" then some (.str st.W st.tW) else if y = Str.ofString "due" then some st.dv else if y = Str.ofString "words" then st.s1 else if y = Str.ofString "row" then st.s2 else if y = Str.ofString "rows" then st.s3 else if y = Str.ofString "step" then st.s4 else m₀ y
theorem lawM_of {m m₀ : Str → Option Value} {W : Str} {tW : Tok} {due : Option (Int × Str)} {dv : Value} {nw : List (Addr × Obj)} (h1 : m (Str.ofString "wide") = some (.str W tW)) (h2 : m (Str.ofString "due") = some dv)
    (h3 : ∀ y, y ≠ Str.ofString "wide" → y ≠ Str.ofString "due" → y ≠ Str.ofString "words" → y ≠ Str.ofString "row" → y ≠ Str.ofString "rows" → y ≠ Str.ofString "step" → m y = m₀ y) :
    m = lawM m₀ ⟨W, tW, due, dv, nw, m (Str.ofString "words"), m (Str.ofString "row"), m (Str.ofString "rows"), m (Str.ofString "step")⟩ := by
  funext y
  show m y = if y = Str.ofString "wide" then some (.str W tW) else if y = Str.ofString "due" then some dv else if y = Str.ofString "words" then m (Str.ofString "words") else if y = Str.ofString "row" then m (Str.ofString "row") else if y = Str.ofString "rows" then m (Str.ofString "rows") else if y = Str.ofString "step" then m (Str.ofString "step") else m₀ y
  by_cases a1 : y = Str.ofString "wide"
  · rw [if_pos a1, a1, h1]
  rw [if_neg a1]
  by_cases a2 : y = Str.ofString "due"
  · rw [if_pos a2, a2, h2]
  rw [if_neg a2]
  by_cases a3 : y = Str.ofString "words"
  · rw [if_pos a3, a3]
  rw [if_neg a3]
  by_cases a4 : y = Str.ofString "row"
  · rw [if_pos a4, a4]
  rw [if_neg a4]
  by_cases a5 : y = Str.ofString "rows"
  · rw [if_pos a5, a5]
  rw [if_neg a5]
  by_cases a6 : y = Str.ofString "step"
  · rw [if_pos a6, a6]
  rw [if_neg a6]
  exact h3 y a1 a2 a3 a4 a5 a6
/-- the due pair as the frame and the ledger hold it -/
def DueAt (N0 : List (Addr × Obj)) (I : Nat) (due : Option (Int × Str)) (dv : Value) (nw : List (Addr × Obj)) : Prop := match due with
  | none => dv = .none ∧ nw = N0
  | some (p, q) => ∃ (d : Addr) (tp tq nn : Nat), dv = .ref d ∧ nw = (d, ({ cls := .type "tuple", data := .seq [Value.int p tp, Value.str q tq].toArray nn } : Obj)) :: N0 ∧ @LT.lt Nat _ I d
def LJ (W0 : Str) (N0 : List (Addr × Obj)) (I : Nat) (st : LS) (i : Nat) : Prop := Reach W0 st.W st.due i ∧ DueAt N0 I st.due st.dv st.nw
section
variable {prog : Program} {w : World} {A : Around} {E : Value → Shared → Prop} {s : Shared} {env : Env} {h₀ : Heap} {x : Str} {body : List Stmt} {Q : Flow → Shared → Prop}
theorem range_ind {I : Addr} {a : Int} {n : Nat} {m₀ : Str → Option Value} (J : LS → Nat → Prop)
    (done : ∀ st, J st n → ∀ h tk, Fr h₀ env.locals h (lawM m₀ st) → News h₀ env.locals h st.nw → Q .next { s with heap := h, toks := tk })
    (turn : ∀ st i k, i < n → J st i → (∀ st', J st' (i + 1) → RangeRest prog w A E h₀ env x body Q s I a n k (i + 1) (lawM m₀ st') st'.nw) → ∀ t h tk, Fr h₀ env.locals h (fun y => if y = x then some (.int (a + (i : Int)) t) else lawM m₀ st y) →
      News h₀ env.locals h ((I, itR (a + ((i + 1 : Nat) : Int)) ((n : Int) - ((i + 1 : Nat) : Int))) :: st.nw) →
      wpAny (model prog w) A (execs body env) (UnrPost h₀ env.locals { s with heap := h, toks := tk } I (itR (a + ((i + 1 : Nat) : Int)) ((n : Int) - ((i + 1 : Nat) : Int))) (RangeRest prog w A E h₀ env x body Q s I a n k (i + 1)) Q) E { s with heap := h, toks := tk }) :
    ∀ k i, i + k = n → ∀ st, J st i → RangeRest prog w A E h₀ env x body Q s I a n k i (lawM m₀ st) st.nw
  | 0, i, e, st, h => by
    have : i = n := by omega
    subst this
    exact done st h
  | k + 1, i, e, st, h => turn st i k (by omega) h fun st' h' => range_ind J done turn k (i + 1) (by omega) st' h'
theorem rest_m {I : Addr} {a : Int} {n k i : Nat} {m m' : Str → Option Value} {nw : List (Addr × Obj)} (e : m = m') (h : RangeRest prog w A E h₀ env x body Q s I a n k i m' nw) : RangeRest prog w A E h₀ env x body Q s I a n k i m nw := e ▸ h
theorem law_start {I : Addr} {a : Int} {n : Nat} {m₀ : Str → Option Value} {N0 : List (Addr × Obj)} {W0 : Str} {tW : Tok} (h1 : m₀ (Str.ofString "wide") = some (.str W0 tW)) (h2 : m₀ (Str.ofString "due") = some .none)
    (done : ∀ st, LJ W0 N0 I st n → ∀ h tk, Fr h₀ env.locals h (lawM m₀ st) → News h₀ env.locals h st.nw → Q .next { s with heap := h, toks := tk })
    (turn : ∀ st i k, i < n → LJ W0 N0 I st i → (∀ st', LJ W0 N0 I st' (i + 1) → RangeRest prog w A E h₀ env x body Q s I a n k (i + 1) (lawM m₀ st') st'.nw) → ∀ t h tk, Fr h₀ env.locals h (fun y => if y = x then some (.int (a + (i : Int)) t) else lawM m₀ st y) →
      News h₀ env.locals h ((I, itR (a + ((i + 1 : Nat) : Int)) ((n : Int) - ((i + 1 : Nat) : Int))) :: st.nw) →
      wpAny (model prog w) A (execs body env) (UnrPost h₀ env.locals { s with heap := h, toks := tk } I (itR (a + ((i + 1 : Nat) : Int)) ((n : Int) - ((i + 1 : Nat) : Int))) (RangeRest prog w A E h₀ env x body Q s I a n k (i + 1)) Q) E { s with heap := h, toks := tk }) :
    RangeRest prog w A E h₀ env x body Q s I a n n 0 m₀ N0 :=
  rest_m (lawM_of (due := none) (nw := N0) h1 h2 (fun _ _ _ _ _ _ _ => rfl)) (range_ind (LJ W0 N0 I) done turn n 0 (by omega) ⟨W0, tW, none, .none, N0, _, _, _, _⟩ ⟨.start, rfl, rfl⟩)
theorem end_turn {I : Addr} {it : Obj} {a : Int} {n k i : Nat} {m₀ m' : Str → Option Value} {all : List (Addr × Obj)} {h' : Heap} {tk : Nat} {s₁ : Shared} (st' : LS) (F : Fr h₀ env.locals h' m') (N : News h₀ env.locals h' all) (hm : m' = lawM m₀ st')
    (hsub : ∀ p ∈ (I, it) :: st'.nw, p ∈ all) (hoff : ∀ p ∈ st'.nw, p.1 ≠ I) (r : RangeRest prog w A E h₀ env x body Q s I a n k i (lawM m₀ st') st'.nw) :
    UnrEnd h₀ env.locals s₁ I it (RangeRest prog w A E h₀ env x body Q s I a n k i) { s₁ with heap := h', toks := tk } :=
  UnrEnd.intro F N st'.nw hsub hoff (hm ▸ r)
end
section
variable {prog : Program} {w : World} {A : Around} {E : Value → Shared → Prop} {s : Shared} {env : Env} {h₀ : Heap} {x : Str} {body : List Stmt} {Q : Flow → Shared → Prop}
  {I : Addr} {a : Int} {n k i : Nat} {m₀ m' : Str → Option Value} {all rest N0 nw : List (Addr × Obj)} {h' : Heap} {tk : Nat} {s₁ : Shared} {it : Obj} {W0 W r wd q : Str} {due : Option (Int × Str)} {dv : Value} {tW' tp tq nn : Nat} {d : Addr}
theorem due_off {N0 nw : List (Addr × Obj)} {I : Nat} {due : Option (Int × Str)} {dv : Value} (hI0 : ∀ p ∈ N0, @LT.lt Nat _ p.1 I) (h : DueAt N0 I due dv nw) : ∀ p ∈ nw, @Ne Nat p.1 I := fun p hp => by
  cases due with
  | none =>
    obtain ⟨_, rfl⟩ := h
    exact Nat.ne_of_lt (hI0 p hp)
  | some pq =>
    obtain ⟨d, tp, tq, nn, _, rfl, hd⟩ := h
    rcases List.mem_cons.mp hp with rfl | hp
    · exact Nat.ne_of_gt hd
    · exact Nat.ne_of_lt (hI0 p hp)
theorem turn_keep (F' : Fr h₀ env.locals h' m') (N' : News h₀ env.locals h' all) (hRe : Reach W0 W due i) (hm : (r, wd) ∈ menu) (hd : dueNext W due wd = due) (hDu : DueAt N0 I due dv nw) (hI0 : ∀ p ∈ N0, @LT.lt Nat _ p.1 I)
    (ih : ∀ st', LJ W0 N0 I st' (i + 1) → RangeRest prog w A E h₀ env x body Q s I a n k (i + 1) (lawM m₀ st') st'.nw)
    (h1 : m' (Str.ofString "wide") = some (.str (W ++ (r ++ Str.ofString "\n")) tW')) (h2 : m' (Str.ofString "due") = some dv) (h3 : ∀ y, y ≠ Str.ofString "wide" → y ≠ Str.ofString "due" → y ≠ Str.ofString "words" → y ≠ Str.ofString "row" → y ≠ Str.ofString "rows" → y ≠ Str.ofString "step" → m' y = m₀ y)
    (hsub : ∀ p ∈ (I, it) :: nw, p ∈ all) : UnrEnd h₀ env.locals s₁ I it (RangeRest prog w A E h₀ env x body Q s I a n k (i + 1)) { s₁ with heap := h', toks := tk } :=
  end_turn ⟨W ++ (r ++ Str.ofString "\n"), tW', due, dv, nw, _, _, _, _⟩ F' N' (lawM_of h1 h2 h3) hsub (due_off hI0 hDu) (ih _ ⟨by have := hRe.step hm; rw [hd] at this; exact this, hDu⟩)
theorem turn_new (F' : Fr h₀ env.locals h' m') (N' : News h₀ env.locals h' ((d, ({ cls := .type "tuple", data := .seq [Value.int (W.length : Int) tp, Value.str q tq].toArray nn } : Obj)) :: rest)) (hRe : Reach W0 W none i) (hm : (r, wd) ∈ menu)
    (hd : dueNext W none wd = some ((W.length : Int), q)) (hId : @LT.lt Nat _ I d) (hI0 : ∀ p ∈ N0, @LT.lt Nat _ p.1 I)
    (ih : ∀ st', LJ W0 N0 I st' (i + 1) → RangeRest prog w A E h₀ env x body Q s I a n k (i + 1) (lawM m₀ st') st'.nw)
    (h1 : m' (Str.ofString "wide") = some (.str (W ++ (r ++ Str.ofString "\n")) tW')) (h2 : m' (Str.ofString "due") = some (.ref d)) (h3 : ∀ y, y ≠ Str.ofString "wide" → y ≠ Str.ofString "due" → y ≠ Str.ofString "words" → y ≠ Str.ofString "row" → y ≠ Str.ofString "rows" → y ≠ Str.ofString "step" → m' y = m₀ y)
    (hsub : ∀ p ∈ (I, it) :: N0, p ∈ rest) : UnrEnd h₀ env.locals s₁ I it (RangeRest prog w A E h₀ env x body Q s I a n k (i + 1)) { s₁ with heap := h', toks := tk } := by
  have hDu : DueAt N0 I (some ((W.length : Int), q)) (.ref d) ((d, ({ cls := .type "tuple", data := .seq [Value.int (W.length : Int) tp, Value.str q tq].toArray nn } : Obj)) :: N0) := ⟨d, tp, tq, nn, rfl, rfl, hId⟩
  refine end_turn ⟨W ++ (r ++ Str.ofString "\n"), tW', some ((W.length : Int), q), .ref d, _, _, _, _, _⟩ F' N' (lawM_of h1 h2 h3) (fun p hp => ?_) (due_off hI0 hDu) (ih _ ⟨by have := hRe.step hm; rw [hd] at this; exact this, hDu⟩)
  rcases List.mem_cons.mp hp with rfl | hp
  · exact .tail _ (hsub _ (.head _))
  rcases List.mem_cons.mp hp with rfl | hp
  · exact .head _
  · exact .tail _ (hsub _ (.tail _ hp))
theorem due1 {W wd : Str} (h1 : (wd != Str.ofString "") = true) (h2 : (wd == Str.ofString "-") = true) : dueNext W none wd = some ((W.length : Int), Str.ofString "") := by
  have w1 : wd ≠ Str.ofString "" := by simpa using h1
  have w2 : wd = Str.ofString "-" := by simpa using h2
  unfold dueNext
  dsimp only
  rw [if_neg w1, if_pos w2]
theorem due2 {W wd : Str} (h1 : (wd != Str.ofString "") = true) (h2 : (wd == Str.ofString "-") = false) : dueNext W none wd = some ((W.length : Int), wd) := by
  have w1 : wd ≠ Str.ofString "" := by simpa using h1
  have w2 : ¬ wd = Str.ofString "-" := by simpa using h2
  unfold dueNext
  dsimp only
  rw [if_neg w1, if_neg w2]
theorem due3 {W wd : Str} (h1 : (wd != Str.ofString "") = false) : dueNext W none wd = none := by
  have w1 : wd = Str.ofString "" := by simpa using h1
  unfold dueNext
  dsimp only
  rw [if_pos w1]
end
section
variable {prog : Program} {w : World} {A : Around} {E : Value → Shared → Prop} {s : Shared} {h₀ : Heap} {L : Addr} {m : Str → Option Value} {news : List (Addr × Obj)}
theorem cellL {value slice : Expr} {a : Addr} {vs : List Value} {ns : List Int} {n : Nat} {k : Int} {u : Tok} {Q : Value → Shared → Prop} (N : News h₀ L s.heap news) (hm : (a, listOf vs.toArray n) ∈ news) (hi : IntsAre vs ns) (h0 : 0 ≤ k) (hk : k < 6) (hl : 6 ≤ ns.length) (h : ∀ c t, Q (.int c t) s)
    (hs : subscripted slice false (.ref a) (.int k u) = operate [.ref a, .int k u] (getItem (.ref a) (.int k u)) := by with_unfolding_all rfl) : wpAny (model prog w) A (subscriptTail value slice (.ref a) (.int k u)) Q E s := by
  have hl' : s.heap.IsList a vs.toArray := ⟨_, (N _ hm).1, rfl, _, rfl⟩
  have hlt : k.toNat < ns.length := by omega
  have hvl := hi.length
  have hlt' : k.toNat < vs.length := by omega
  obtain ⟨t, ht⟩ : ∃ t, vs[k.toNat]? = some (.int (ns[k.toNat]'hlt) t) := by
    have := hi.get k.toNat (ns[k.toNat]'hlt) (List.getElem?_eq_getElem hlt)
    first | exact this | simpa using this
  exact tail_any hl'.typeIs slot_list_getitem.lookup (wpAny_getItem_list hl' h0 (by omega) (by simpa using ht) (h _ _)) hs
theorem menuL {value slice : Expr} {a : Addr} {vs : List Value} {n : Nat} {k : Int} {u : Tok} {Q : Value → Shared → Prop} (N : News h₀ L s.heap news) (hm : (a, listOf vs.toArray n) ∈ news) (h0 : 0 ≤ k) (hk : k < 12) (hl : vs.length = 12)
    (hv : ∀ p ∈ vs.zip menu, ∃ ta t t' nn, p.1 = .ref ta ∧ (ta, ({ cls := .type "tuple", data := .seq [Value.str p.2.1 t, Value.str p.2.2 t'].toArray nn } : Obj)) ∈ news)
    (h : ∀ ta r wd t t', (r, wd) ∈ menu → r.length ≤ 20 → wd.length ≤ 20 → IsTup s.heap ta [Value.str r t, Value.str wd t'].toArray → Q (.ref ta) s)
    (hs : subscripted slice false (.ref a) (.int k u) = operate [.ref a, .int k u] (getItem (.ref a) (.int k u)) := by with_unfolding_all rfl) : wpAny (model prog w) A (subscriptTail value slice (.ref a) (.int k u)) Q E s := by
  have hl' : s.heap.IsList a vs.toArray := ⟨_, (N _ hm).1, rfl, _, rfl⟩
  have hml : menu.length = 12 := rfl
  have h1 : k.toNat < vs.length := by omega
  have h2 : k.toNat < menu.length := by omega
  have hz : (vs[k.toNat]'h1, menu[k.toNat]'h2) ∈ vs.zip menu := by
    refine List.mem_of_getElem? (i := k.toNat) ?_
    rw [List.getElem?_zip_eq_some]
    exact ⟨List.getElem?_eq_getElem h1, List.getElem?_eq_getElem h2⟩
  obtain ⟨ta, t, t', nn, e, hmem⟩ := hv _ hz
  have hx : vs[k.toNat]? = some (.ref ta) := by rw [List.getElem?_eq_getElem h1]; exact congrArg some e
  exact tail_any hl'.typeIs slot_list_getitem.lookup (wpAny_getItem_list hl' h0 (by omega) (by simpa using hx) (h ta _ _ t t' (List.getElem_mem h2) (menu_short _ (List.getElem_mem h2)).1 (menu_short _ (List.getElem_mem h2)).2 (News.isTup N hmem))) hs
inductive MenuAre (news : List (Addr × Obj)) : List Value → List (Str × Str) → Prop
  | nil : MenuAre news [] []
  | cons {ta : Addr} {t t' nn : Nat} {r wd : Str} {vs : List Value} {ms : List (Str × Str)} : (ta, ({ cls := .type "tuple", data := .seq [Value.str r t, Value.str wd t'].toArray nn } : Obj)) ∈ news → MenuAre news vs ms → MenuAre news (.ref ta :: vs) ((r, wd) :: ms)
theorem MenuAre.all {news : List (Addr × Obj)} : ∀ {vs : List Value} {ms : List (Str × Str)}, MenuAre news vs ms → ∀ p ∈ vs.zip ms, ∃ ta t t' nn, p.1 = .ref ta ∧ (ta, ({ cls := .type "tuple", data := .seq [Value.str p.2.1 t, Value.str p.2.2 t'].toArray nn } : Obj)) ∈ news
  | _, _, .nil => fun _ hp => nomatch hp
  | _, _, .cons h t => fun p hp => by
    rcases List.mem_cons.mp hp with rfl | hp
    · exact ⟨_, _, _, _, rfl, h⟩
    · exact MenuAre.all t p hp
theorem menuLR {value slice : Expr} {a : Addr} {vs : List Value} {n : Nat} {k : Int} {u : Tok} {Q : Value → Shared → Prop}
    (N : News h₀ L s.heap news) (hm : (a, listOf vs.toArray n) ∈ news) (hl : vs.length = 12) (h0 : 0 ≤ k) (hk : k < 12) (hv : MenuAre news vs menu) (h : ∀ ta r wd t t', (r, wd) ∈ menu → r.length ≤ 20 → wd.length ≤ 20 → IsTup s.heap ta [Value.str r t, Value.str wd t'].toArray → Q (.ref ta) s) (hs : subscripted slice false (.ref a) (.int k u) = operate [.ref a, .int k u] (getItem (.ref a) (.int k u)) := by with_unfolding_all rfl) : wpAny (model prog w) A (subscriptTail value slice (.ref a) (.int k u)) Q E s :=
  menuL N hm h0 hk hl hv.all h hs
end
end Mine
end
section
open PySem PySem.W PyProof.Rows
namespace Mine
abbrev nlS : Str := ⟨#[10]⟩
theorem nlS_eq : Str.ofString "\n" = nlS := by decide +kernel
def joinN : List Str → List Nat
  | [] => []
  | [x] => x.cps.toList
  | x :: y :: r => x.cps.toList ++ 10 :: joinN (y :: r)
theorem joinN_eq : ∀ l : List Str, (Str.join nlS l).cps.toList = joinN l
  | [] => rfl
  | [_] => rfl
  | x :: y :: r => by
    have ih := joinN_eq (y :: r)
    show (x ++ nlS ++ Str.join nlS (y :: r)).cps.toList = x.cps.toList ++ 10 :: joinN (y :: r)
    rw [← ih]
    simp [Str.cps_append]
theorem cut_eq : ∀ {a b A B : List Nat}, 10 ∉ a → 10 ∉ b → a ++ 10 :: A = b ++ 10 :: B → a = b ∧ A = B
  | [], [], _, _, _, _, h => ⟨rfl, by simpa using h⟩
  | [], y :: b, A, B, _, hb, h => by
    rw [List.nil_append, List.cons_append, List.cons.injEq] at h
    exact absurd (by rw [h.1]; exact List.mem_cons_self ..) hb
  | x :: a, [], A, B, ha, _, h => by
    rw [List.nil_append, List.cons_append, List.cons.injEq] at h
    exact absurd (by rw [← h.1]; exact List.mem_cons_self ..) ha
  | x :: a, y :: b, A, B, ha, hb, h => by
    rw [List.cons_append, List.cons_append, List.cons.injEq] at h
    have q := cut_eq (fun m => ha (List.mem_cons_of_mem _ m)) (fun m => hb (List.mem_cons_of_mem _ m)) h.2
    exact ⟨by rw [h.1, q.1], q.2⟩
theorem cut_no {a b B : List Nat} (ha : 10 ∉ a) (h : a = b ++ 10 :: B) : False := ha (by rw [h]; simp)
theorem str_ext {x y : Str} (h : x.cps.toList = y.cps.toList) : x = y := by
  obtain ⟨⟨a⟩⟩ := x
  obtain ⟨⟨b⟩⟩ := y
  simp only at h
  rw [h]
theorem joinN_inj : ∀ {as bs : List Str}, as ≠ [] → bs ≠ [] → (∀ p ∈ as, 10 ∉ p.cps.toList) → (∀ p ∈ bs, 10 ∉ p.cps.toList) → joinN as = joinN bs → as = bs
  | [], _, h, _, _, _, _ => absurd rfl h
  | _ :: _, [], _, h, _, _, _ => absurd rfl h
  | [x], [y], _, _, _, _, h => by rw [str_ext (show x.cps.toList = y.cps.toList from h)]
  | [x], y :: z :: r, _, _, hx, _, h => (cut_no (hx x (.head _)) h).elim
  | x :: z :: r, [y], _, _, _, hy, h => (cut_no (hy y (.head _)) h.symm).elim
  | x :: x2 :: r, y :: y2 :: r', _, _, hx, hy, h => by
    have q := cut_eq (hx x (.head _)) (hy y (.head _)) h
    have ih := joinN_inj (as := x2 :: r) (bs := y2 :: r') (by simp) (by simp) (fun p hp => hx p (.tail _ hp)) (fun p hp => hy p (.tail _ hp)) q.2
    rw [str_ext q.1, ih]
theorem split_is {x : Str} {ls : List Str} (hn : ls ≠ []) (hf : ∀ p ∈ ls, 10 ∉ p.cps.toList) (h : joinN ls = x.cps.toList) : Txt.split x (Str.ofString "\n") = ls := by
  rw [nlS_eq]
  have h1 := StrLaws.join_split x nlS
  have h2 := StrLaws.split_free x 10
  have h3 : Txt.split x nlS ≠ [] := by
    intro e
    have := split_pos x nlS
    rw [e] at this
    cases this
  refine joinN_inj h3 hn h2 hf ?_
  rw [← joinN_eq, h1, h]
theorem joinN_snoc : ∀ (ls : List Str) (ms : List Str), ms ≠ [] → joinN (ls ++ ms) = (ls.flatMap fun x => x.cps.toList ++ [10]) ++ joinN ms
  | [], ms, _ => by simp
  | [x], [], h => absurd rfl h
  | [x], y :: r, _ => by simp [joinN]
  | x :: y :: r, ms, h => by
    have ih := joinN_snoc (y :: r) ms h
    show x.cps.toList ++ 10 :: joinN (y :: r ++ ms) = _
    rw [ih]
    simp
theorem split_add {W r : Str} {ls rl : List Str} (h : Txt.split W (Str.ofString "\n") = ls ++ [Str.ofString ""]) (hr : joinN rl = r.cps.toList) (hrn : rl ≠ []) (hrf : ∀ p ∈ rl, 10 ∉ p.cps.toList) :
    Txt.split (W ++ (r ++ Str.ofString "\n")) (Str.ofString "\n") = (ls ++ rl) ++ [Str.ofString ""] := by
  have he : (Str.ofString "").cps.toList = [] := by decide +kernel
  have hnl : (Str.ofString "\n").cps.toList = [10] := by decide +kernel
  have hW : joinN (ls ++ [Str.ofString ""]) = W.cps.toList := by
    rw [← h, nlS_eq, ← joinN_eq, StrLaws.join_split]
  have hfr : ∀ p ∈ ls ++ [Str.ofString ""], 10 ∉ p.cps.toList := by
    rw [← h, nlS_eq]; exact StrLaws.split_free W 10
  refine split_is (by simp) (fun p hp => ?_) ?_
  · rcases List.mem_append.mp hp with hp | hp
    · rcases List.mem_append.mp hp with hp | hp
      · exact hfr p (List.mem_append.mpr (.inl hp))
      · exact hrf p hp
    · exact hfr p (List.mem_append.mpr (.inr hp))
  · rw [List.append_assoc, joinN_snoc ls _ (by simp), joinN_snoc rl _ (by simp)]
    rw [joinN_snoc ls _ (by simp)] at hW
    have hb : ∀ (l : List Str), l ≠ [] → (l.flatMap fun x => x.cps.toList ++ [10]) = joinN l ++ [10] := by
      intro l hl
      induction l with
      | nil => exact absurd rfl hl
      | cons x r ih =>
        cases r with
        | nil => simp [joinN]
        | cons y r' =>
          rw [List.flatMap_cons, ih (by simp)]
          simp [joinN]
    rw [hb rl hrn, hr]
    have e1 : joinN [Str.ofString ""] = [] := he
    rw [e1, List.append_nil] at hW
    rw [e1, List.append_nil, hW]
    simp [Str.cps_append, hnl]
/-! the fold over a row's lines -/
abbrev bsS : Str := Str.ofString "\\"
theorem step_plain {rows : List (Int × List Str)} {b a : Int} {y : Str} {ws : List Str} (hw : Txt.words (lineOf y) = ws) (he : Txt.endswith (cutL y) bsS = false) :
    ∃ b', stepW ⟨rows, [], b, a⟩ y = ⟨rows ++ (if ws = [] then [] else [(a, ws)]), [], b', a + (y.length : Int) + 1⟩ := by
  unfold stepW
  simp only [hw, List.nil_append, he, List.length_nil]
  cases ws with
  | nil => exact ⟨a, by simp⟩
  | cons w r => exact ⟨a, by simp⟩
theorem step_two {rows : List (Int × List Str)} {b a : Int} {y1 y2 : Str} {w1 w2 : List Str} (hw1 : Txt.words (lineOf y1) = w1) (he1 : Txt.endswith (cutL y1) bsS = true) (hn : w1 ≠ [])
    (hw2 : Txt.words (lineOf y2) = w2) (he2 : Txt.endswith (cutL y2) bsS = false) :
    ∃ b', stepW (stepW ⟨rows, [], b, a⟩ y1) y2 = ⟨rows ++ [(a, w1 ++ w2)], [], b', a + (y1.length : Int) + 1 + (y2.length : Int) + 1⟩ := by
  cases w1 with
  | nil => exact absurd rfl hn
  | cons w r =>
    unfold stepW
    simp only [hw1, hw2, List.nil_append, he1, he2, List.length_nil]
    have h0 : ¬ ((r.length : Int) + 1 = 0) := by omega
    have h1 : (0 : Int) < (r.length : Int) + (w2.length : Int) + 1 := by omega
    exact ⟨a, by simp [h0, h1]⟩
/-- a menu's row: its lines, its words -/
structure Row where
  r : Str
  wd : Str
  ls : List Str
  ws : List Str
def rowOk (x : Row) : Bool :=
  decide (joinN x.ls = x.r.cps.toList) && decide (x.ls ≠ []) && (x.ls.all fun p => decide (10 ∉ p.cps.toList)) &&
  (match x.ls with
    | [y] => decide (Txt.words (lineOf y) = x.ws) && !(Txt.endswith (cutL y) bsS) && decide (y = x.r)
    | [y1, y2] => Txt.endswith (cutL y1) bsS && decide (Txt.words (lineOf y1) ≠ []) && decide (Txt.words (lineOf y1) ++ Txt.words (lineOf y2) = x.ws) && !(Txt.endswith (cutL y2) bsS) && decide (x.r.length = y1.length + 1 + y2.length)
    | _ => false) &&
  decide (opens (0, x.ws) = !(decide (x.wd = Str.ofString ""))) && decide (x.wd = Str.ofString "" ∨ Txt.join (Str.ofString " ") (x.ws.drop 1) = if x.wd = Str.ofString "-" then Str.ofString "" else x.wd) &&
  decide ((x.ws.map (·.length)).sum + x.ws.length ≤ 1000)
def S (s : String) : Str := Str.ofString s
def menuR : List Row := [⟨S "nothing here", S "", [S "nothing here"], [S "nothing", S "here"]⟩, ⟨S "# .model b", S "", [S "# .model b"], []⟩, ⟨S ".names u y", S "", [S ".names u y"], [S ".names", S "u", S "y"]⟩, ⟨S ".end", S "", [S ".end"], [S ".end"]⟩,
  ⟨S ".model b", S "b", [S ".model b"], [S ".model", S "b"]⟩, ⟨S ".model", S "-", [S ".model"], [S ".model"]⟩, ⟨S ".model b c", S "b c", [S ".model b c"], [S ".model", S "b", S "c"]⟩, ⟨S ".model \\\n  b2", S "b2", [S ".model \\", S "  b2"], [S ".model", S "b2"]⟩,
  ⟨S "x .model", S "", [S "x .model"], [S "x", S ".model"]⟩, ⟨S ".inputs x", S "", [S ".inputs x"], [S ".inputs", S "x"]⟩, ⟨S "  .model b3 # c", S "b3", [S "  .model b3 # c"], [S ".model", S "b3"]⟩, ⟨S "", S "", [S ""], []⟩]
theorem menuR_ok : menuR.all rowOk = true := by decide +kernel
theorem menuR_is : menuR.map (fun x => (x.r, x.wd)) = menu := rfl
theorem menu_row {r wd : Str} (h : (r, wd) ∈ menu) : ∃ ls ws, rowOk ⟨r, wd, ls, ws⟩ = true := by
  rw [← menuR_is] at h
  obtain ⟨x, hx, e⟩ := List.mem_map.mp h
  obtain ⟨xr, xw, ls, ws⟩ := x
  have e1 : xr = r := congrArg Prod.fst e
  have e2 : xw = wd := congrArg Prod.snd e
  subst e1 e2
  exact ⟨ls, ws, List.all_eq_true.mp menuR_ok _ hx⟩
theorem len_eq (x : Str) : x.length = x.cps.toList.length := by
  show x.cps.size = _
  simp
/-- what a row adds -/
theorem row_fold {r wd : Str} (h : (r, wd) ∈ menu) : ∃ ls ws, joinN ls = r.cps.toList ∧ ls ≠ [] ∧ (∀ p ∈ ls, 10 ∉ p.cps.toList) ∧
    (∀ rows b a, ∃ b', ls.foldl stepW ⟨rows, [], b, a⟩ = ⟨rows ++ (if ws = [] then [] else [(a, ws)]), [], b', a + (r.length : Int) + 1⟩) ∧
    (∀ a, opens (a, ws) = !(decide (wd = Str.ofString ""))) ∧ (wd = Str.ofString "" ∨ Txt.join (Str.ofString " ") (ws.drop 1) = if wd = Str.ofString "-" then Str.ofString "" else wd) ∧ (ws.map (·.length)).sum + ws.length ≤ 1000 := by
  obtain ⟨ls, ws, ok⟩ := menu_row h
  unfold rowOk at ok
  simp only [Bool.and_eq_true, decide_eq_true_eq] at ok
  obtain ⟨⟨⟨⟨⟨⟨o1, o2⟩, o3⟩, o4⟩, o5⟩, o6⟩, o7⟩ := ok
  refine ⟨ls, ws, o1, o2, fun p hp => by have := List.all_eq_true.mp o3 p hp; simpa using this, fun rows b a => ?_, fun a => o5, o6, o7⟩
  split at o4
  · rename_i y
    simp only [Bool.and_eq_true, decide_eq_true_eq, Bool.not_eq_true'] at o4
    obtain ⟨⟨p1, p2⟩, rfl⟩ := o4
    exact step_plain p1 p2
  · rename_i y1 y2
    simp only [Bool.and_eq_true, decide_eq_true_eq, Bool.not_eq_true'] at o4
    obtain ⟨⟨⟨⟨p1, p2⟩, p3⟩, p4⟩, p5⟩ := o4
    obtain ⟨b', e⟩ := step_two (rows := rows) (b := b) (a := a) rfl p1 p2 rfl p4
    refine ⟨b', ?_⟩
    have hne : ws ≠ [] := by
      rw [← p3]; intro z; exact p2 (List.append_eq_nil_iff.mp z).1
    rw [List.foldl_cons, List.foldl_cons, List.foldl_nil, e, p3, if_neg hne]
    congr 1
    omega
  · cases o4
/-- what stands of the text after some turns -/
def Told (W : Str) (due : Option (Int × Str)) (i : Nat) : Prop :=
  ∃ ls tail b, Txt.split W (Str.ofString "\n") = ls ++ [Str.ofString ""] ∧ ls.foldl stepW st0 = ⟨base6 ++ tail, [], b, (W.length : Int)⟩ ∧ tail.length ≤ i ∧ (∀ x ∈ tail, x.2 ≠ []) ∧ (∀ x ∈ tail, (x.2.map (·.length)).sum + x.2.length ≤ 1000) ∧
    (due = none → tail.find? opens = none) ∧ (∀ p q, due = some (p, q) → ∃ ws, tail.find? opens = some (p, ws) ∧ Txt.join (Str.ofString " ") (ws.drop 1) = q)
theorem told_step {W : Str} {due : Option (Int × Str)} {i : Nat} {r wd : Str} (h : Told W due i) (hm : (r, wd) ∈ menu) : Told (W ++ (r ++ Str.ofString "\n")) (dueNext W due wd) (i + 1) := by
  obtain ⟨ls, tail, b, h1, h2, h3, h4, h5, h6, h7⟩ := h
  obtain ⟨rl, ws, r1, r2, r3, r4, r5, r6, r7⟩ := row_fold hm
  obtain ⟨b', hb⟩ := r4 (base6 ++ tail) b (W.length : Int)
  have hnl : (Str.ofString "\n").length = 1 := by decide +kernel
  have hop : ∀ a, ws = [] → opens (a, ws) = false := fun a e => by rw [e]; rfl
  refine ⟨ls ++ rl, tail ++ (if ws = [] then [] else [((W.length : Int), ws)]), b', split_add h1 r1 r2 r3, ?_, ?_, ?_, ?_, ?_, ?_⟩
  · rw [List.foldl_append, h2, hb, List.append_assoc]
    congr 1
    simp only [Str.length_append, hnl]
    omega
  · split <;> simp <;> omega
  · intro x hx
    rcases List.mem_append.mp hx with hx | hx
    · exact h4 x hx
    · split at hx
      · exact nomatch hx
      · rename_i hne
        rw [List.mem_singleton.mp hx]
        exact hne
  · intro x hx
    rcases List.mem_append.mp hx with hx | hx
    · exact h5 x hx
    · split at hx
      · exact nomatch hx
      · rw [List.mem_singleton.mp hx]
        exact r7
  · intro hd
    cases due with
    | some d => cases hd
    | none =>
      have hd' : (if wd = Str.ofString "" then none else some ((W.length : Int), if wd = Str.ofString "-" then Str.ofString "" else wd)) = none := hd
      by_cases hw : wd = Str.ofString ""
      · rw [List.find?_append, h6 rfl]
        split
        · rfl
        · have : opens ((W.length : Int), ws) = false := by rw [r5, hw]; simp
          simp [this]
      · rw [if_neg hw] at hd'
        cases hd'
  · intro p q hd
    cases due with
    | some d =>
      obtain ⟨ws', f1, f2⟩ := h7 p q hd
      exact ⟨ws', by rw [List.find?_append, f1]; rfl, f2⟩
    | none =>
      have hd' : (if wd = Str.ofString "" then none else some ((W.length : Int), if wd = Str.ofString "-" then Str.ofString "" else wd)) = some (p, q) := hd
      by_cases hw : wd = Str.ofString ""
      · rw [if_pos hw] at hd'; cases hd'
      · rw [if_neg hw] at hd'
        have hd'' := Option.some.inj hd'
        have e1 : (W.length : Int) = p := congrArg Prod.fst hd''
        have e2 : (if wd = Str.ofString "-" then Str.ofString "" else wd) = q := congrArg Prod.snd hd''
        have ho : opens ((W.length : Int), ws) = true := by rw [r5]; simp [hw]
        have hne : ws ≠ [] := by intro z; rw [hop _ z] at ho; cases ho
        refine ⟨ws, ?_, ?_⟩
        · subst e1
          rw [List.find?_append, h6 rfl, if_neg hne]
          simp [ho]
        · rcases r6 with r6 | r6
          · exact absurd r6 hw
          · rw [r6, e2]
abbrev baseT : Str := Str.ofString ".model top\n.inputs x\n.outputs y\n.names x y\n0 1\n.end"
def baseL (last : Str) : List Str := [S ".model top", S ".inputs x", S ".outputs y", S ".names x y", S "0 1", last]
theorem told_base {E0 : Str} (h : E0 = Str.ofString " \n" ∨ E0 = Str.ofString " # .model z\n") : Told (baseT ++ E0) none 0 := by
  rcases h with rfl | rfl
  · refine ⟨baseL (S ".end "), [], ((baseL (S ".end ")).foldl stepW st0).begun, by decide +kernel, ?_, Nat.le_refl _, (fun _ h => (nomatch h)), (fun _ h => (nomatch h)), (fun _ => rfl), (fun _ _ h => (nomatch h))⟩
    have a1 : ((baseL (S ".end ")).foldl stepW st0).rows = base6 := by decide +kernel
    have a2 : ((baseL (S ".end ")).foldl stepW st0).words = [] := by decide +kernel
    have a3 : ((baseL (S ".end ")).foldl stepW st0).at_ = (((baseT ++ Str.ofString " \n").length : Nat) : Int) := by decide +kernel
    rw [List.append_nil, ← a1, ← a2, ← a3]
  · refine ⟨baseL (S ".end # .model z"), [], ((baseL (S ".end # .model z")).foldl stepW st0).begun, by decide +kernel, ?_, Nat.le_refl _, (fun _ h => (nomatch h)), (fun _ h => (nomatch h)), (fun _ => rfl), (fun _ _ h => (nomatch h))⟩
    have a1 : ((baseL (S ".end # .model z")).foldl stepW st0).rows = base6 := by decide +kernel
    have a2 : ((baseL (S ".end # .model z")).foldl stepW st0).words = [] := by decide +kernel
    have a3 : ((baseL (S ".end # .model z")).foldl stepW st0).at_ = (((baseT ++ Str.ofString " # .model z\n").length : Nat) : Int) := by decide +kernel
    rw [List.append_nil, ← a1, ← a2, ← a3]
theorem told_all {E0 W : Str} {due : Option (Int × Str)} {i : Nat} (h : E0 = Str.ofString " \n" ∨ E0 = Str.ofString " # .model z\n") (hR : Reach (baseT ++ E0) W due i) : Told W due i := by
  induction hR with
  | start => exact told_base h
  | step _ hm ih => exact told_step ih hm
/-- the plain law -/
theorem plain {E0 W : Str} {due : Option (Int × Str)} {i : Nat} (h : E0 = Str.ofString " \n" ∨ E0 = Str.ofString " # .model z\n") (hR : Reach (baseT ++ E0) W due i) :
    ∃ tail, rowsOf W = base6 ++ tail ∧ tail.length ≤ i ∧ (∀ x ∈ tail, x.2 ≠ []) ∧ (∀ x ∈ tail, (x.2.map (·.length)).sum + x.2.length ≤ 1000000) ∧
      (due = none → tail.find? opens = none) ∧ (∀ p q, due = some (p, q) → ∃ ws, tail.find? opens = some (p, ws) ∧ Txt.join (Str.ofString " ") (ws.drop 1) = q) := by
  obtain ⟨ls, tail, b, h1, h2, h3, h4, h5, h6, h7⟩ := told_all h hR
  refine ⟨tail, ?_, h3, h4, fun x hx => Nat.le_trans (h5 x hx) (by decide), h6, h7⟩
  have w1 : Txt.words (lineOf (Str.ofString "")) = [] := by decide +kernel
  have w2 : Txt.endswith (cutL (Str.ofString "")) bsS = false := by decide +kernel
  obtain ⟨b', hb⟩ := step_plain (rows := base6 ++ tail) (b := b) (a := (W.length : Int)) w1 w2
  unfold rowsOf
  rw [h1, List.foldl_append, h2, List.foldl_cons, List.foldl_nil, hb]
  simp
end Mine
end
section
open PySem PySem.W PyProof.Rows PyProof.V PySem.W.X
namespace Mine
theorem InstAt.of_exc {h₀ h : Heap} {L x C dx : Addr} {news : List (Addr × Obj)} {od : Obj} {vs : Array Value} (N : News h₀ L h news) (h1 : (x, exO C dx vs) ∈ news) (h2 : (dx, od) ∈ news) : InstAt h x (exO C dx vs) C (some od) := ⟨(N _ h1).1, rfl, rfl, (N _ h2).1⟩
local macro_rules | `(tactic| x_close) => `(tactic| assumption)
set_option maxRecDepth 100000 in
set_option maxHeartbeats 4000000 in
theorem ge_kind {w : World} {e1 : Env} {e da t : Addr} {x1 x2 x3 : Int} {b0 b1 b2 : Nat} {v1 v2 v3 : Value} {vs : Array Value} {h : Heap} {g : Array GenState} {d : Drawn} {tk : Nat} {os : OsState} {E Q : Value → Shared → Prop}
    (KX : (top.heap_1 w.params).In h) (he : h.get? e = some ⟨.ref 52, some da, .fields vs, #[]⟩)
    (hd : h.get? da = some ⟨.type "dict", none, .dict #[⟨x1, .str ⟨#[107, 105, 110, 100]⟩ b0, v1⟩, ⟨x2, .str ⟨#[97, 116]⟩ b1, v2⟩, ⟨x3, .str ⟨#[100, 101, 116, 97, 105, 108]⟩ b2, v3⟩] 3, #[]⟩)
    (k : Q v1 ⟨h, g, d, tk, os⟩) :
    wpAny (model progB w) ((callerA.deeper e1).mark (some (.ref e))) (call (.builtin "BaseException.__getattribute__") [.ref e, .str ⟨#[107, 105, 110, 100]⟩ t]) Q E ⟨h, g, d, tk, os⟩ := by
  x_run
set_option maxRecDepth 100000 in
set_option maxHeartbeats 4000000 in
theorem ge_at {w : World} {e1 : Env} {e da t : Addr} {x1 x2 x3 : Int} {b0 b1 b2 : Nat} {v1 v2 v3 : Value} {vs : Array Value} {h : Heap} {g : Array GenState} {d : Drawn} {tk : Nat} {os : OsState} {E Q : Value → Shared → Prop}
    (KX : (top.heap_1 w.params).In h) (he : h.get? e = some ⟨.ref 52, some da, .fields vs, #[]⟩)
    (hd : h.get? da = some ⟨.type "dict", none, .dict #[⟨x1, .str ⟨#[107, 105, 110, 100]⟩ b0, v1⟩, ⟨x2, .str ⟨#[97, 116]⟩ b1, v2⟩, ⟨x3, .str ⟨#[100, 101, 116, 97, 105, 108]⟩ b2, v3⟩] 3, #[]⟩)
    (k : Q v2 ⟨h, g, d, tk, os⟩) :
    wpAny (model progB w) ((callerA.deeper e1).mark (some (.ref e))) (call (.builtin "BaseException.__getattribute__") [.ref e, .str ⟨#[97, 116]⟩ t]) Q E ⟨h, g, d, tk, os⟩ := by
  x_run
set_option maxRecDepth 100000 in
set_option maxHeartbeats 4000000 in
theorem ge_detail {w : World} {e1 : Env} {e da t : Addr} {x1 x2 x3 : Int} {b0 b1 b2 : Nat} {v1 v2 v3 : Value} {vs : Array Value} {h : Heap} {g : Array GenState} {d : Drawn} {tk : Nat} {os : OsState} {E Q : Value → Shared → Prop}
    (KX : (top.heap_1 w.params).In h) (he : h.get? e = some ⟨.ref 52, some da, .fields vs, #[]⟩)
    (hd : h.get? da = some ⟨.type "dict", none, .dict #[⟨x1, .str ⟨#[107, 105, 110, 100]⟩ b0, v1⟩, ⟨x2, .str ⟨#[97, 116]⟩ b1, v2⟩, ⟨x3, .str ⟨#[100, 101, 116, 97, 105, 108]⟩ b2, v3⟩] 3, #[]⟩)
    (k : Q v3 ⟨h, g, d, tk, os⟩) :
    wpAny (model progB w) ((callerA.deeper e1).mark (some (.ref e))) (call (.builtin "BaseException.__getattribute__") [.ref e, .str ⟨#[100, 101, 116, 97, 105, 108]⟩ t]) Q E ⟨h, g, d, tk, os⟩ := by
  x_run
end Mine
end
section
open PySem PySem.W PyProof.Rows PyProof.V PySem.Calls
namespace Mine
theorem ga_bind (self : Value) : bindSpecial (.builtin "BaseException.__getattribute__") self = pure (.builtin "BaseException.__getattribute__", [self]) := by
  have hk : builtinKind "BaseException.__getattribute__" = some .slot := by decide +kernel
  have hop : withoutEnding? "BaseException.__getattribute__" "#opaque" = none := by decide +kernel
  have hdat : withoutEnding? "BaseException.__getattribute__" "#data" = none := by decide +kernel
  simp only [bindSpecial, typeOf, builtinType, hop, hdat, hk]; rfl
theorem ga_find (P : Params) : findIn (top.heap_1 P) (.ref 52) "__getattribute__" = some (some (.builtin "BaseException.__getattribute__")) := by
  first | kernel_rfl | (with_unfolding_all rfl)
theorem ga_hook (P : Params) : findIn (top.heap_1 P) (.ref 52) "__getattr__" = some none := by
  first | kernel_rfl | (with_unfolding_all rfl)
theorem get_excA {w : World} {e1 : Env} {e da : Addr} {vs : Array Value} {name : Str} {v : Value} {h : Heap} {g : Array GenState} {d : Drawn} {tk : Nat} {os : OsState} {E Q : Value → Shared → Prop} {expr : Bool} {od : Obj}
    (KX : (top.heap_1 w.params).In h) (he : h.get? e = some (exO 52 da vs)) (hda : h.get? da = some od)
    (hcall : ∀ t tk, wpAny (model progB w) ((callerA.deeper e1).mark (some (.ref e))) (call (.builtin "BaseException.__getattribute__") [.ref e, .str name t]) (fun v' s' => v' = v ∧ s' = ⟨h, g, d, tk, os⟩) (fun _ _ => False) ⟨h, g, d, tk, os⟩)
    (hv : handedIn v = true) (k : Q v ⟨h, g, d, tk + 1, os⟩) : wpAny (model progB w) ((callerA.deeper e1).mark (some (.ref e))) (getAttr (.ref e) name expr) Q E ⟨h, g, d, tk, os⟩ := by
  have I : InstAt h e (exO 52 da vs) 52 (some od) := ⟨he, rfl, rfl, hda⟩
  have L0 := I.type (M := model progB w)
  have L1 := looks_findIn (M := model progB w) KX (ga_find w.params)
  have L2 := looks_findIn (M := model progB w) KX (ga_hook w.params)
  have heq : (Value.builtin "BaseException.__getattribute__" == Value.builtin "object.__getattribute__") = false := by decide +kernel
  unfold getAttr getAttrBy
  refine wpAny_bind (wpAny_mkText (wpAny_holding (wpAny_bind (L0.at (wpAny_bind (L1.at ?_))))))
  show wpAny _ _ (if (onTheHeap (.ref 52) && (Value.builtin "BaseException.__getattribute__" == Value.builtin "object.__getattribute__")) = true then _ else getAttrByItsOwn _ _ _ _ _ _) _ _ _
  rw [heq, Bool.and_false, if_neg (by decide)]
  unfold getAttrByItsOwn hookBefore callGetattribute boundAndCalled
  refine wpAny_bind (L2.at ?_)
  refine wpAny_bind (wpAny_attempt (wpAny_holding ?_))
  have hb : (expr && onTheHeap (.builtin "BaseException.__getattribute__")) = false := by rw [show onTheHeap (.builtin "BaseException.__getattribute__") = false from rfl, Bool.and_false]
  rw [hb, if_neg (by decide)]
  refine wpAny_bind (wpAny_of_eq (ga_bind _) ?_)
  refine wpAny_mono (hcall _ _) (fun v' s' hv' => ?_) fun _ _ z => z.elim
  obtain ⟨rfl, rfl⟩ := hv'
  show wpAny _ _ (handedOut v') _ _ _
  rw [handedOut_of hv]
  exact wpAny_pure k
end Mine
end
section
open PySem PySem.W PyProof.Rows PyProof.V PySem.Calls
namespace Mine
section
variable {w : World} {e1 : Env} {e da ta L : Addr} {vs : Array Value} {x1 x2 x3 : Int} {b0 b1 b2 t1 t2 t3 : Nat} {p : Int} {q : Str} {h₀ : Heap} {m : Str → Option Value} {news : List (Addr × Obj)} {s : Shared} {expr : Bool} {Q E : Value → Shared → Prop}
theorem k1 : Str.ofString "kind" = ⟨#[107, 105, 110, 100]⟩ := by decide +kernel
theorem k2 : Str.ofString "at" = ⟨#[97, 116]⟩ := by decide +kernel
theorem k3 : Str.ofString "detail" = ⟨#[100, 101, 116, 97, 105, 108]⟩ := by decide +kernel
theorem get_kindK (KX : (top.heap_1 w.params).In h₀) (F : Fr h₀ L s.heap m) (N : News h₀ L s.heap news) (m1 : (e, exO 52 da vs) ∈ news) (m2 : (da, exD x1 x2 x3 b0 b1 b2 t1 t2 t3 p q) ∈ news)
    (k : Q (.str (Str.ofString "several_models") t1) { s with toks := s.toks + 1 }) : wpAny (model progB w) ((callerA.deeper e1).mark (some (.ref e))) (getAttr (.ref e) (Str.ofString "kind") expr) Q E s := by
  obtain ⟨h, g, d, tk, os⟩ := s
  have he := (N _ m1).1
  have hd := (N _ m2).1
  have hd' := hd
  simp only [exD, exL, k1, k2, k3] at hd'
  refine get_excA (KX.keeps F.keep) he hd (fun t tk => ?_) rfl k
  rw [k1]
  exact ge_kind (KX.keeps F.keep) he hd' ⟨rfl, rfl⟩
theorem get_atK (KX : (top.heap_1 w.params).In h₀) (F : Fr h₀ L s.heap m) (N : News h₀ L s.heap news) (m1 : (e, exO 52 da vs) ∈ news) (m2 : (da, exD x1 x2 x3 b0 b1 b2 t1 t2 t3 p q) ∈ news)
    (k : Q (.int p t2) { s with toks := s.toks + 1 }) : wpAny (model progB w) ((callerA.deeper e1).mark (some (.ref e))) (getAttr (.ref e) (Str.ofString "at") expr) Q E s := by
  obtain ⟨h, g, d, tk, os⟩ := s
  have he := (N _ m1).1
  have hd := (N _ m2).1
  have hd' := hd
  simp only [exD, exL, k1, k2, k3] at hd'
  refine get_excA (KX.keeps F.keep) he hd (fun t tk => ?_) rfl k
  rw [k2]
  exact ge_at (KX.keeps F.keep) he hd' ⟨rfl, rfl⟩
theorem get_detailK (KX : (top.heap_1 w.params).In h₀) (F : Fr h₀ L s.heap m) (N : News h₀ L s.heap news) (m1 : (e, exO 52 da vs) ∈ news) (m2 : (da, exD x1 x2 x3 b0 b1 b2 t1 t2 t3 p q) ∈ news)
    (k : Q (.str q t3) { s with toks := s.toks + 1 }) : wpAny (model progB w) ((callerA.deeper e1).mark (some (.ref e))) (getAttr (.ref e) (Str.ofString "detail") expr) Q E s := by
  obtain ⟨h, g, d, tk, os⟩ := s
  have he := (N _ m1).1
  have hd := (N _ m2).1
  have hd' := hd
  simp only [exD, exL, k1, k2, k3] at hd'
  refine get_excA (KX.keeps F.keep) he hd (fun t tk => ?_) rfl k
  rw [k3]
  exact ge_detail (KX.keeps F.keep) he hd' ⟨rfl, rfl⟩
end
end Mine
end
section
open PySem PySem.W PyProof.Rows PyProof.V PySem.SeqAt
namespace Mine
theorem menu_strOk : ∀ p ∈ menu, PyData.strOk p.2 = true := by
  have h : (menu.all fun p => PyData.strOk p.2) = true := by decide +kernel
  exact fun p hp => List.all_eq_true.mp h p hp
theorem due_ok {W0 W : Str} {due : Option (Int × Str)} {i : Nat} (h : Reach W0 W due i) : ∀ p q, due = some (p, q) → PyData.strOk q = true := by
  induction h with
  | start => exact fun _ _ h => nomatch h
  | @step W due i r wd _ hm ih =>
    intro p q hd
    cases due with
    | some d => exact ih p q hd
    | none =>
      have hd' : (if wd = Str.ofString "" then none else some ((W.length : Int), if wd = Str.ofString "-" then Str.ofString "" else wd)) = some (p, q) := hd
      by_cases hw : wd = Str.ofString ""
      · rw [if_pos hw] at hd'; cases hd'
      · rw [if_neg hw] at hd'
        have e2 : (if wd = Str.ofString "-" then Str.ofString "" else wd) = q := congrArg Prod.snd (Option.some.inj hd')
        rw [← e2]
        split
        · decide +kernel
        · exact menu_strOk _ hm
theorem sm_ok : PyData.strOk (Str.ofString "several_models") = true := by decide +kernel
theorem shaped3 {p : Int} {q : Str} (hq : PyData.strOk q = true) : shaped (.tuple [.str (Str.ofString "several_models"), .int p, .str q]) = true := by
  unfold shaped
  simp [PyData.canLay0, PyData.canLayAll0, hq, sm_ok, PyData.depth, PyData.depthAll]
section
variable {w : World} {A : Around} {a b L : Addr} {u1 u2 u3 u1' u2' u3' n n' : Nat} {p : Int} {q : Str} {h₀ : Heap} {news : List (Addr × Obj)} {s : Shared} {Q E : Value → Shared → Prop}
theorem eq3 (N : News h₀ L s.heap news) (m1 : (a, ({ cls := .type "tuple", data := .seq [Value.str (Str.ofString "several_models") u1, Value.int p u2, Value.str q u3].toArray n } : Obj)) ∈ news)
    (m2 : (b, ({ cls := .type "tuple", data := .seq [Value.str (Str.ofString "several_models") u1', Value.int p u2', Value.str q u3'].toArray n' } : Obj)) ∈ news) (hq : PyData.strOk q = true) (hu : A.units + 64 < cLine) (h : Q (.bool true) s) :
    wpAny (model progB w) A (compareOp .Eq (.ref a) (.ref b)) Q E s := by
  refine eq_dataH (da := .tuple [.str (Str.ofString "several_models"), .int p, .str q]) (db := .tuple [.str (Str.ofString "several_models"), .int p, .str q])
    (reads_tuple_at (News.get N m1) rfl rfl (.cons (.str _ _) (.cons (.int _ _) (.cons (.str _ _) .nil)))) (reads_tuple_at (News.get N m2) rfl rfl (.cons (.str _ _) (.cons (.int _ _) (.cons (.str _ _) .nil)))) (shaped3 hq) (shaped3 hq) hu ?_
  have e : PyData.eqv (.tuple [.str (Str.ofString "several_models"), .int p, .str q]) (.tuple [.str (Str.ofString "several_models"), .int p, .str q]) = true := by
    simp [PyData.eqv, PyData.eqvAll]
  rw [e]
  exact h
end
end Mine
end
section
open PySem PySem.W PyProof.Rows PyProof.V
namespace Mine

/- taken names: where the kit would lay a twin of one of the head's constants it finds its name taken and goes on without -/
theorem lawT.tw11389604556438737324 : True := trivial
theorem lawT.tw7187326209769427487 : True := trivial
theorem lawT.tw2225968682586033025 : True := trivial
theorem lawT.tw12054122035665294737 : True := trivial
theorem lawT.tw15973775665297735733 : True := trivial
theorem lawT.tw6911343416732524803 : True := trivial
theorem lawT.tw14883838369568783288 : True := trivial
theorem lawT.tw807997002950746672 : True := trivial
theorem lawT.tw11568196794895976435 : True := trivial
theorem lawT.tw15007486574540808562 : True := trivial
theorem lawT.tw6429398976457811724 : True := trivial
theorem lawT.tw6405159611844265252 : True := trivial
theorem lawT.tw5497683468091620904 : True := trivial
theorem lawT.tw11652880335018994375 : True := trivial
theorem lawT.tw8098181667237220633 : True := trivial
theorem lawT.tw2873911610699247842 : True := trivial
theorem lawT.tw13618077616310767492 : True := trivial
theorem lawT.tw3600973503921405142 : True := trivial
theorem lawT.tw5146757103484071177 : True := trivial
theorem lawT.tw4998365212404623943 : True := trivial
theorem lawT.tw9581178252162330285 : True := trivial
theorem lawT.tw17055476016740562128 : True := trivial
theorem lawT.tw13325186715389734152 : True := trivial
theorem lawT.tw4264762052692005583 : True := trivial
theorem lawT.tw14358537746866521329 : True := trivial
theorem lawT.tw11772424609704981507 : True := trivial
theorem lawT.tw6166757456829074725 : True := trivial
theorem lawT.tw10061725491284593803 : True := trivial
theorem lawT.tw10910714276845596366 : True := trivial
theorem lawT.tw6132045462075617500 : True := trivial
theorem lawT.tw9425677158036233291 : True := trivial
theorem lawT.tw17904601607507335495 : True := trivial
theorem lawT.tw8871858186404639061 : True := trivial
theorem lawT.tw8687906558143148141 : True := trivial
theorem lawT.tw2049758658053727338 : True := trivial
theorem lawT.tw8494572045984804555 : True := trivial
theorem lawT.tw13644821208893085820 : True := trivial
theorem lawT.tw9533548494797678716 : True := trivial
theorem lawT.tw17477790656375069214 : True := trivial
theorem lawT.tw14062160007318399088 : True := trivial
theorem lawT.tw5926671564514635346 : True := trivial
theorem lawT.tw3757730310773048322 : True := trivial
theorem lawT.tw7755915363204515821 : True := trivial
theorem lawT.tw4769852445758985961 : True := trivial
theorem lawT.tw9216025942106486930 : True := trivial
theorem lawT.tw17547926917826507404 : True := trivial
theorem lawT.tw17089154766579864898 : True := trivial
theorem lawT.tw2680803254003568839 : True := trivial
theorem lawT.tw2729678275248368595 : True := trivial
theorem lawT.tw551222858299229154 : True := trivial
theorem lawT.tw16241256156001525921 : True := trivial
theorem lawT.tw7529985242682883274 : True := trivial
theorem lawT.tw9519953200757049573 : True := trivial
theorem lawT.tw5627164381475268979 : True := trivial
theorem lawT.tw6215741870073834074 : True := trivial
theorem lawT.tw12148027733593142790 : True := trivial
theorem lawT.tw5440105020635474762 : True := trivial
theorem lawT.tw10433576947672777602 : True := trivial
theorem lawT.tw1757822339931356419 : True := trivial
theorem lawT.tw9880130190255100492 : True := trivial
theorem lawT.tw14277062285831900126 : True := trivial
theorem lawT.tw12603300115819391598 : True := trivial
theorem lawT.tw8177230591221756081 : True := trivial
theorem lawT.tw16153991904484936447 : True := trivial
theorem lawT.tw16306742552841901821 : True := trivial
theorem lawT.tw3975705244263904573 : True := trivial
theorem lawT.tw11322272262455122332 : True := trivial
theorem lawT.tw18030087037689892010 : True := trivial
theorem lawT.tw11344295216304715190 : True := trivial
theorem lawT.tw16758828649722048419 : True := trivial
theorem lawT.tw9093347588758853463 : True := trivial
theorem lawT.tw403272296947751199 : True := trivial
theorem lawT.tw15810202214831364308 : True := trivial
theorem lawT.tw17912130172406275858 : True := trivial
theorem lawT.tw10994564639479759493 : True := trivial
theorem lawT.tw1986845550992540400 : True := trivial
theorem lawT.tw14274646891849573286 : True := trivial
theorem lawT.tw10811335992638853385 : True := trivial
theorem lawT.tw18082896986096657357 : True := trivial
theorem lawT.tw17927283848480038048 : True := trivial
theorem lawT.tw14719439851186160715 : True := trivial
theorem lawT.tw3556048773974950814 : True := trivial
theorem lawT.tw3328940276181612757 : True := trivial
theorem lawT.tw8395178377750397819 : True := trivial
theorem lawT.tw1155625789869916225 : True := trivial
theorem lawT.tw2243441803968818577 : True := trivial
theorem lawT.tw10448863937650631224 : True := trivial
theorem lawT.tw17951894131356942447 : True := trivial
theorem lawT.tw16945139769450650382 : True := trivial
theorem lawT.tw17737708976245921420 : True := trivial
theorem lawT.tw12015109101949664789 : True := trivial
theorem lawT.tw5862867536084694604 : True := trivial
theorem lawT.tw16490950055996847365 : True := trivial
theorem lawT.tw5909007766959540048 : True := trivial
theorem lawT.tw12543857911111510591 : True := trivial
theorem lawT.tw5597621963111361625 : True := trivial
theorem lawT.tw1078735106661357154 : True := trivial
theorem lawT.tw6789132394701517141 : True := trivial
theorem lawT.tw2172655028503076602 : True := trivial
theorem lawT.tw2767353445721626788 : True := trivial
theorem lawT.tw17210016377997813347 : True := trivial
theorem lawT.tw16949849959734727383 : True := trivial
theorem lawT.tw2802827502222440997 : True := trivial
theorem lawT.tw12663660485266932870 : True := trivial
theorem lawT.tw12440985681581897651 : True := trivial
theorem lawT.tw6314445845500888954 : True := trivial
theorem lawT.tw16829802788435467021 : True := trivial
theorem lawT.tw3869276220796434156 : True := trivial
theorem lawT.tw3953290071102543430 : True := trivial
theorem lawT.tw17103209499194658948 : True := trivial
theorem lawT.tw11940500063520303285 : True := trivial
theorem lawT.tw184270684030672397 : True := trivial
theorem lawT.tw15915182530413434248 : True := trivial
theorem lawT.tw340575432980958467 : True := trivial
theorem lawT.tw12768497168819598045 : True := trivial
theorem lawT.tw17809740042060131596 : True := trivial
theorem lawT.tw3388124817864114902 : True := trivial
theorem lawT.tw11232165487468060354 : True := trivial
theorem lawT.tw18206491639748473151 : True := trivial
theorem lawT.tw5049558636363556131 : True := trivial
theorem lawT.tw3330372189238011941 : True := trivial
theorem lawT.tw10646392610100365873 : True := trivial
theorem lawT.tw15627835346941038952 : True := trivial
theorem lawT.tw13753992867449215604 : True := trivial
theorem lawT.tw7891625865948076061 : True := trivial
theorem lawT.tw14935867393346671497 : True := trivial
theorem lawT.tw15094137676452916655 : True := trivial
theorem lawT.tw18223634802368376262 : True := trivial
theorem lawT.tw7280640884661477353 : True := trivial
theorem lawT.tw3956217345532885462 : True := trivial
theorem lawT.tw9820752921979625601 : True := trivial
theorem lawT.tw1101667219631665364 : True := trivial
theorem lawT.tw16860173950001930000 : True := trivial
theorem lawT.tw1575322794432820369 : True := trivial
theorem lawT.tw8490531743971128749 : True := trivial
theorem lawT.tw7125043775892690276 : True := trivial
theorem lawT.tw7196705921500699120 : True := trivial
theorem lawT.tw2842617487397823366 : True := trivial
theorem lawT.tw18292367192976940542 : True := trivial
theorem lawT.tw15660620782202870220 : True := trivial
theorem lawT.tw3063754571980898619 : True := trivial
theorem lawT.tw18261975111296914062 : True := trivial
theorem lawT.tw17458832985058227628 : True := trivial
theorem lawT.tw7863209290797756483 : True := trivial
theorem lawT.tw8741091129330041977 : True := trivial
theorem lawT.tw5193995869548900021 : True := trivial
theorem lawT.tw11523093003099482930 : True := trivial
theorem lawT.tw7528176536728550346 : True := trivial
theorem lawT.tw13520986291065989830 : True := trivial
theorem lawT.tw14187283162540301378 : True := trivial
theorem lawT.tw7805270066356673609 : True := trivial
theorem lawT.tw2513484474726584552 : True := trivial
theorem lawT.tw14813322233397399043 : True := trivial
theorem lawT.tw7823307338651830179 : True := trivial
theorem lawT.tw17964953070971125951 : True := trivial
theorem lawT.tw14295977421412583074 : True := trivial
theorem lawT.tw16497179986206410780 : True := trivial
theorem lawT.tw3622124141659625656 : True := trivial
theorem lawT.tw4967494921771670518 : True := trivial
theorem lawT.tw16404650048409002 : True := trivial
theorem lawT.tw3301265043726181235 : True := trivial
theorem lawT.tw3061268461672246630 : True := trivial
theorem lawT.tw2626335934222790227 : True := trivial
theorem lawT.tw2337608521092029074 : True := trivial
theorem lawT.tw16414920292232599483 : True := trivial
theorem lawT.tw11550143704304662060 : True := trivial
theorem lawT.tw5331243358250421437 : True := trivial
theorem lawT.tw2540461266776722236 : True := trivial
theorem lawT.tw5841912047760791565 : True := trivial
set_option Elab.async true in
set_option maxRecDepth 100000 in
set_option maxHeartbeats 16000000 in
theorem lawT : PySem.Challenge.rw_rg0145_01.Holds := by
  k_with_none
  (k_with "kcf_all" => (first | exact sub_nil | exact fun _ hp => hp | (refine sub_cons ?_ ?_; (focus kcf_m); k_extra "kcf_all")))
  (k_with "ap" => ((repeat (first | ((with_reducible refine Ap.here ?_); k_mem; done) | ((with_reducible refine Ap.back ?_); k_mem; done) | (with_reducible refine Ap.there ?_))); done))
  (k_with "bf" => ((repeat (first | ((with_reducible refine Bf.here ?_); k_mem; done) | (with_reducible refine Bf.there ?_))); done))
  (k_with "ltn" => (first | with_reducible assumption | exact lt_nw (by with_reducible assumption) (by k_mem) | exact lt_nw2 (by with_reducible assumption) (by with_reducible assumption) (by k_mem) | (refine bf_lt (by with_reducible assumption) ?_; k_extra "bf") | omega))
  (k_with "cj" => ((rename (_ ∧ _ ∧ _) => hcj9); first | exact hcj9.1 | exact (hcj9.1).symm | exact hcj9.2.1 | exact (hcj9.2.1).symm | exact hcj9.2.2.1 | exact (hcj9.2.2.1).symm | exact hcj9.2.2.2.1 | exact (hcj9.2.2.2.1).symm | exact hcj9.2.2.2.2.1 | exact (hcj9.2.2.2.2.1).symm | exact hcj9.2.2.2.2.2.1 | exact (hcj9.2.2.2.2.2.1).symm | exact hcj9.2.2.2.2.2.2.1 | exact (hcj9.2.2.2.2.2.2.1).symm | exact hcj9.2.2.2.2.2.2.2.1 | exact (hcj9.2.2.2.2.2.2.2.1).symm | exact hcj9.2.2.2.2.2.2.2.2.1 | exact (hcj9.2.2.2.2.2.2.2.2.1).symm | exact hcj9.2.2.2.2.2.2.2.2.2.1 | exact (hcj9.2.2.2.2.2.2.2.2.2.1).symm | exact hcj9.2.2.2.2.2.2.2.2.2.2.1 | exact (hcj9.2.2.2.2.2.2.2.2.2.2.1).symm | exact hcj9.2.2.2.2.2.2.2.2.2.2.2.1 | exact (hcj9.2.2.2.2.2.2.2.2.2.2.2.1).symm | exact hcj9.2.2.2.2.2.2.2.2.2.2.2.2.1 | exact (hcj9.2.2.2.2.2.2.2.2.2.2.2.2.1).symm | exact hcj9.2.2.2.2.2.2.2.2.2.2.2.2.2.1 | exact (hcj9.2.2.2.2.2.2.2.2.2.2.2.2.2.1).symm | exact hcj9.2.2.2.2.2.2.2.2.2.2.2.2.2.2.1 | exact (hcj9.2.2.2.2.2.2.2.2.2.2.2.2.2.2.1).symm | exact hcj9.2.2.2.2.2.2.2.2.2.2.2.2.2.2.2.1 | exact (hcj9.2.2.2.2.2.2.2.2.2.2.2.2.2.2.2.1).symm | exact hcj9.2.2.2.2.2.2.2.2.2.2.2.2.2.2.2.2.1 | exact (hcj9.2.2.2.2.2.2.2.2.2.2.2.2.2.2.2.2.1).symm | exact hcj9.2.2.2.2.2.2.2.2.2.2.2.2.2.2.2.2.2.1 | exact (hcj9.2.2.2.2.2.2.2.2.2.2.2.2.2.2.2.2.2.1).symm | exact hcj9.2.2.2.2.2.2.2.2.2.2.2.2.2.2.2.2.2.2.1 | exact (hcj9.2.2.2.2.2.2.2.2.2.2.2.2.2.2.2.2.2.2.1).symm | exact hcj9.2.2.2.2.2.2.2.2.2.2.2.2.2.2.2.2.2.2.2.1 | exact (hcj9.2.2.2.2.2.2.2.2.2.2.2.2.2.2.2.2.2.2.2.1).symm | exact hcj9.2.2.2.2.2.2.2.2.2.2.2.2.2.2.2.2.2.2.2.2.1 | exact (hcj9.2.2.2.2.2.2.2.2.2.2.2.2.2.2.2.2.2.2.2.2.1).symm | exact hcj9.2.2.2.2.2.2.2.2.2.2.2.2.2.2.2.2.2.2.2.2.2.1 | exact (hcj9.2.2.2.2.2.2.2.2.2.2.2.2.2.2.2.2.2.2.2.2.2.1).symm | exact hcj9.2.2.2.2.2.2.2.2.2.2.2.2.2.2.2.2.2.2.2.2.2.2.1 | exact (hcj9.2.2.2.2.2.2.2.2.2.2.2.2.2.2.2.2.2.2.2.2.2.2.1).symm | exact hcj9.2.2.2.2.2.2.2.2.2.2.2.2.2.2.2.2.2.2.2.2.2.2.2.1 | exact (hcj9.2.2.2.2.2.2.2.2.2.2.2.2.2.2.2.2.2.2.2.2.2.2.2.1).symm | exact hcj9.2.2.2.2.2.2.2.2.2.2.2.2.2.2.2.2.2.2.2.2.2.2.2.2.1 | exact (hcj9.2.2.2.2.2.2.2.2.2.2.2.2.2.2.2.2.2.2.2.2.2.2.2.2.1).symm | exact hcj9.2.2.2.2.2.2.2.2.2.2.2.2.2.2.2.2.2.2.2.2.2.2.2.2.2.1 | exact (hcj9.2.2.2.2.2.2.2.2.2.2.2.2.2.2.2.2.2.2.2.2.2.2.2.2.2.1).symm))
  (k_with "k_ne" => ((show @Ne Nat _ _); (try dsimp only); first | with_reducible assumption | exact ne_nw (by with_reducible assumption) (by k_mem) | exact (ne_nw (by with_reducible assumption) (by k_mem)).symm | exact le1_ne (by with_reducible assumption) (by with_reducible assumption) (by k_mem) | exact (le1_ne (by with_reducible assumption) (by with_reducible assumption) (by k_mem)).symm | exact Nat.ne_of_lt (by with_reducible assumption) | exact Nat.ne_of_gt (by with_reducible assumption) | exact Ne.symm (by with_reducible assumption) | (refine ap_ne (by with_reducible assumption) ?_; k_extra "ap") | exact leE_ne (by with_reducible assumption) (by with_reducible assumption) (by k_mem) (by k_mem) | exact (leE_ne (by with_reducible assumption) (by with_reducible assumption) (by k_mem) (by k_mem)).symm | exact ne_nw2 (by with_reducible assumption) (by with_reducible assumption) (by k_mem) | exact (ne_nw2 (by with_reducible assumption) (by with_reducible assumption) (by k_mem)).symm | exact off1_ne (by with_reducible assumption) (by k_mem) | exact (off1_ne (by with_reducible assumption) (by k_mem)).symm | exact off3_I (by with_reducible assumption) (by k_mem) | exact (off3_I (by with_reducible assumption) (by k_mem)).symm | exact off3_C (by with_reducible assumption) (by k_mem) | exact (off3_C (by with_reducible assumption) (by k_mem)).symm | exact off3_D (by with_reducible assumption) (by k_mem) | exact (off3_D (by with_reducible assumption) (by k_mem)).symm | exact ne_nwS (by with_reducible assumption) (by k_mem) | exact (ne_nwS (by with_reducible assumption) (by k_mem)).symm | exact ne_nwT (by with_reducible assumption) (by k_mem) | exact (ne_nwT (by with_reducible assumption) (by k_mem)).symm | k_extra "cj" | omega))
  (k_with "k_in" => (first | with_reducible assumption | exact Frag.In.keeps (by with_reducible assumption) (Fr.keep (by with_reducible assumption))))
  (k_with "k_all" => (first | exact List.forall_mem_nil _ | (refine all_cons ?_ ?_; (focus k_ne); k_extra "k_all")))
  (k_with "pyIter ref" => (k_here; (with_reducible show wpAny _ _ (pyIter (Value.ref _)) (fun it s₂ => LoopAtV _ _ _ _ _ (PySem.Str.ofString "step") _ _ _ it s₂) _ _); refine Mine.halt ?_))
  (k_with "call ref" => (k_here; (with_reducible show wpAny _ _ (call (Value.ref 249) _ _) _ _ _); refine Mine.halt ?_))
  (k_with "subscriptTail Name BinOp ref int" => (k_here; (with_reducible show wpAny _ _ (subscriptTail _ _ (Value.ref _) (Value.int _ _)) _ _ _); k_dflt (refine cellL (by k_asm) (by k_mem) (by assumption) (by omega) (by omega) (by omega) ?_ (by with_unfolding_all rfl)); intro c' t'))
  (k_with "subscriptTail Name BinOp ref int" => (k_here; (with_reducible show wpAny _ _ (subscriptTail _ _ (Value.ref _) (Value.int _ _)) _ _ _); k_dflt (refine menuLR (by k_asm) (by k_mem) (by rfl) (by first | omega | exact Int.fmod_nonneg_of_pos _ (by decide) | exact Int.emod_nonneg _ (by decide)) (by first | omega | exact Int.fmod_lt_of_pos _ (by decide) | exact Int.emod_lt_of_pos _ (by decide)) (by (unfold menu; repeat' (first | exact MenuAre.nil | refine' MenuAre.cons ?_ ?_ | k_mem))) ?_ (by with_unfolding_all rfl)); intro ta' r' wd' t' t'' hmenu' hr' hwd' hT'))
  (k_with "CompSrc" => (k_here; k_dflt (first
      | (refine LCg.CompSrc.ledger (by rfl) (by k_asm) (by k_asm) (by k_mem) (by first | size_fits | exact Nat.le_of_ble_eq_true rfl) ?_; intro g'; lcg_lit)
      | (refine LCg.CompSrc.base (by rfl) (by k_asm) (by k_asm) (by assumption) (by first | size_fits | exact Nat.le_of_ble_eq_true rfl) ?_; intro g'; lcg_lit)
      | (refine LCg.CompSrc.range (by rfl) (by k_asm) (by k_asm) (by assumption) (by first | decide | rfl) (by first | rfl | decide) (by first | size_fits | exact Nat.le_of_ble_eq_true rfl) ?_; intro g'; lcg_lit))))
  (k_with "CompRest" => (with_unfolding_all first
      | (refine LCg.CompRest.succ ?_; intro v' I' oI' C' oC' D' m' h' tk' E' hv' hC' hx' F' N' off' ne'; (first | lcg_open hv' | (obtain ⟨t9', hv9'⟩ := hv'; subst hv9')))
      | refine LCg.CompRest.zero ?_))
  (k_with "FinE" => ((unfold LCg.FinE); intro D' h' tk' F' N' o1'; (try dsimp only [List.nil_append, List.cons_append] at N'); (try dsimp only)))
  (k_with "CompRestP" => (with_unfolding_all first
      | (refine LCp.CompRestP.succ ?_; intro v' hv'; lcg_open hv'; refine ex5 ⟨rfl, by k_mem, rfl, rfl, ?_⟩; intro I' oI' C' oC' D' m' h' tk' E' hC' hx' hy' F' N' off' ne')
      | refine LCp.CompRestP.zero ?_))
  (k_with "getAttr ref" => (k_here; (with_reducible show wpAny _ (Around.mark _ _) (getAttr (Value.ref _) (PySem.Str.ofString "kind") _) _ _ _); k_dflt (refine get_kindK (by k_asm) (by k_asm) (by k_asm) (by k_mem) (by k_mem) ?_)))
  (k_with "getAttr ref" => (k_here; (with_reducible show wpAny _ (Around.mark _ _) (getAttr (Value.ref _) (PySem.Str.ofString "at") _) _ _ _); k_dflt (refine get_atK (by k_asm) (by k_asm) (by k_asm) (by k_mem) (by k_mem) ?_)))
  (k_with "getAttr ref" => (k_here; (with_reducible show wpAny _ (Around.mark _ _) (getAttr (Value.ref _) (PySem.Str.ofString "detail") _) _ _ _); k_dflt (refine get_detailK (by k_asm) (by k_asm) (by k_asm) (by k_mem) (by k_mem) ?_)))
  (k_with "compareOp Eq ref ref" => (k_here; (with_reducible show wpAny _ (Around.mark _ _) (compareOp CmpOp.Eq (Value.ref _) (Value.ref _)) _ _ _); k_dflt (refine eq3 (by k_asm) (by k_mem) (by k_mem) (by assumption) (by first | units_room | exact Nat.le_of_ble_eq_true rfl) ?_)))
  (k_with "UnrEnd" => (refine Mine.halt ?_))
  w_on; o_law
  o_head (kHook top.heap_1 ([0, 1, 2, 3, 4, 5, 6, 7, 8, 9, 10, 11, 12, 13, 14, 15, 16, 17, 18, 19, 20, 21, 22, 29, 30, 31, 32, 33, 34, 35, 36, 37, 38, 39, 40, 43, 50, 51, 52, 62, 63, 64, 65, 66, 67, 68, 69, 70, 71, 72, 73, 74, 75, 76, 77, 78, 79, 80, 81, 82, 83, 84, 85, 86, 87, 88, 89, 90, 91, 92, 93, 94, 95, 96, 97, 98, 99, 100, 101, 102, 103, 104, 105, 106, 107, 108, 109, 110, 111, 112, 113, 114, 115, 116, 117, 118, 119, 120, 121, 122, 123, 124, 125, 126, 127, 128, 129, 132, 133, 134, 135, 136, 137, 138, 139, 140, 141, 142, 143, 144, 145, 146, 147, 148, 149, 150, 151, 152, 153, 154, 155, 156, 157, 158, 159, 160, 161, 162, 163, 164, 165, 166, 167, 168, 169, 170, 171, 179, 180, 181, 182, 183, 184, 185, 186, 187, 188, 189, 190, 191, 192, 193, 194, 195, 196, 197, 198, 199, 200, 201, 202, 203, 204, 205, 206, 207, 208, 209, 210, 211, 212, 213, 214, 215, 216, 217, 218, 219, 220, 221, 222, 223, 224, 225, 226, 227, 228, 229, 230, 231, 232, 233, 234, 235, 236, 237, 238, 239, 240, 243, 244, 245, 246, 247, 248, 249, 250, 251, 252, 253, 254] : List Nat) (fun _ => by kernel_rfl))
  (case hw => w_witness2)
  k_go0
  (all_goals try k_fold)
  (k_with "table" => skip)
  k_steps
  rename_i hRg F1 N1 hk1
  rename (IntsAre _ (_ ++ _)) => hC
  refine Halt.mk ?_
  clear hk1
  generalize hns : (List.map (fun k' : Int => if k' < 0 then -k' else k') (List.take 6 _) ++ (List.replicate (Int.toNat 6) [(0 : Int)]).flatten) = ns at *
  have hcl : 6 ≤ ns.length := by rw [← hns]; simp
  generalize hE0 : ([Str.ofString " \n", Str.ofString " # .model z\n"].getD ((ns.getD (Int.toNat 0) 0).fdiv 6 |>.fmod 2).toNat Str.empty) = E0 at *
  have hE1 : E0 = Str.ofString " \n" ∨ E0 = Str.ofString " # .model z\n" := by
    rename (((_ : Int).fdiv 6).fmod 2).toNat < 1 + 1 => hlt
    rw [← hE0]
    generalize (((ns.getD (Int.toNat 0) 0).fdiv 6).fmod 2).toNat = j at *
    have : j = 0 ∨ j = 1 := by omega
    rcases this with rfl | rfl
    · exact .inl rfl
    · exact .inr rfl
  generalize hc0 : (ns.getD (Int.toNat 0) 0).fmod 6 = c0 at *
  have hc1 : 0 ≤ c0 := by rw [← hc0]; exact Int.fmod_nonneg_of_pos _ (by decide)
  have hc2 : c0 < 6 := by rw [← hc0]; exact Int.fmod_lt_of_pos _ (by decide)
  have hc3 : c0 = 0 ∨ c0 = 1 ∨ c0 = 2 ∨ c0 = 3 ∨ c0 = 4 ∨ c0 = 5 := by omega
  have hsm : Builtin.Range.small 0 c0 1 = true := by rcases hc3 with rfl | rfl | rfl | rfl | rfl | rfl <;> decide
  obtain ⟨n, hn, hn5⟩ : ∃ n : Nat, Builtin.Range.rangeSize 0 c0 1 = (n : Int) ∧ n ≤ 5 := ⟨c0.toNat, by rcases hc3 with rfl | rfl | rfl | rfl | rfl | rfl <;> decide, by omega⟩
  have hW0 : (Str.ofString ".model top\n.inputs x\n.outputs y\n.names x y\n0 1\n.end" ++ E0).length ≤ 80 := by rcases hE1 with rfl | rfl <;> decide +kernel
  (try (rename Heap.CodeRec _ _ _ => zz; clear zz)); (try (rename Dflts _ _ _ _ _ _ => zz; clear zz)); (try (rename Ground _ _ _ _ _ _ _ _ _ => zz; clear zz)); (try (rename Tables _ _ _ _ => zz; clear zz)); (try (rename TopE _ _ _ _ => zz; clear zz)); (try (rename TopW _ _ _ => zz; clear zz)); (try (rename Flt.MathXP _ _ _ => zz; clear zz)); (try (rename LooseAre _ _ _ => zz; clear zz)); (try (rename BMod _ _ _ _ _ => zz; clear zz)); (try (rename ReadsAll _ _ _ _ => zz; clear zz)); (try (rename Well _ _ _ _ => zz; clear zz)); (try (rename ReadsAllW _ _ _ _ _ _ => zz; clear zz)); (try (rename Glob _ _ _ _ _ _ _ _ => zz; clear zz))
  refine iter_rangeUnr (n := n) rfl hRg hsm hn F1 N1 (fun I lI => ?_)
  clear hc3 hsm hn hRg F1 N1 hE0 hns hc0
  (try (rename (_ + _ ≤ _ ∧ _) => hx9; clear hx9)); (try (rename (_ + _ ≤ _ ∧ _) => hx9; clear hx9)); (try (rename (((_ : Int).fdiv 6).fmod 2).toNat < 1 + 1 => hx9; clear hx9))
  (try (rename (_ → _ = 0) => hx9; clear hx9)); (try (rename ((0 : Int) ≤ _ → _) => hx9; clear hx9))
  have hI0 := lI
  k_lt lI
  refine' law_start (W0 := Str.ofString ".model top\n.inputs x\n.outputs y\n.names x y\n0 1\n.end" ++ E0) ?h1 ?h2 ?done ?turn
  (case h1 => exact rfl)
  (case h2 => exact rfl)
  case turn =>
    rintro ⟨W, tW, due, dv, nw, s1, s2, s3, s4⟩ i k hi ⟨hRe, hDu⟩ ih t h tk F N
    dsimp only at hRe hDu ih F N ⊢
    have hWs : W.length ≤ 200 := ws_le hRe.short hW0 hi hn5
    cases due with
    | none =>
      obtain ⟨rfl, rfl⟩ := hDu
      k_steps
      · rename ((_, _) ∈ menu) => hm9
        rename ((_ != _) = true) => b1
        rename ((_ == _) = true) => b2
        rename_i D9 hx2 l19 hx1 tx1 kx1 ax1 tW9 k9 a9 h9 F9 N9
        refine Halt.mk ?_
        refine' turn_new (W := W) (d := D9) (tW' := tW9) F9 N9 hRe hm9 (due1 b1 b2) ?hId hI0 ih ?h1 ?h2 ?h3 ?hsub
        (case hId => k_extra "ltn")
        (case h1 => rfl)
        (case h2 => rfl)
        (case h3 => (intro y a1 a2 a3 a4 a5 a6; simp only [lawM, a1, a2, a3, a4, a5, a6, if_false]))
        (case hsub => (repeat' (first | exact List.forall_mem_nil _ | (refine List.forall_mem_cons.mpr ⟨by k_mem, ?_⟩))))
      · rename ((_, _) ∈ menu) => hm9
        rename ((_ != _) = true) => b1
        rename ((_ == _) = false) => b2
        rename_i D9 hx2 l19 hx1 tx1 kx1 ax1 tW9 k9 a9 h9 F9 N9
        refine Halt.mk ?_
        refine' turn_new (W := W) (d := D9) (tW' := tW9) F9 N9 hRe hm9 (due2 b1 b2) ?hId hI0 ih ?h1 ?h2 ?h3 ?hsub
        (case hId => k_extra "ltn")
        (case h1 => rfl)
        (case h2 => rfl)
        (case h3 => (intro y a1 a2 a3 a4 a5 a6; simp only [lawM, a1, a2, a3, a4, a5, a6, if_false]))
        (case hsub => (repeat' (first | exact List.forall_mem_nil _ | (refine List.forall_mem_cons.mpr ⟨by k_mem, ?_⟩))))
      · rename ((_, _) ∈ menu) => hm9
        rename ((_ != _) = false) => b1
        rename_i tW9 k9 a9 h9 F9 N9
        refine Halt.mk ?_
        refine' turn_keep (W := W) (due := none) (dv := .none) (tW' := tW9) F9 N9 hRe hm9 (due3 b1) ⟨rfl, rfl⟩ hI0 ih ?h1 ?h2 ?h3 ?hsub
        (case h1 => rfl)
        (case h2 => rfl)
        (case h3 => (intro y a1 a2 a3 a4 a5 a6; simp only [lawM, a1, a2, a3, a4, a5, a6, if_false]))
        (case hsub => (repeat' (first | exact List.forall_mem_nil _ | (refine List.forall_mem_cons.mpr ⟨by k_mem, ?_⟩))))
    | some pq =>
      obtain ⟨p, q⟩ := pq
      obtain ⟨d, tp, tq, nn, rfl, rfl, hId⟩ := hDu
      k_steps
      all_goals (
        rename ((_, _) ∈ menu) => hm9
        rename_i tW9 k9 a9 h9 F9 N9
        refine Halt.mk ?_
        refine' turn_keep (W := W) (due := some (p, q)) (dv := .ref d) (tW' := tW9) F9 N9 hRe hm9 rfl ⟨d, tp, tq, nn, rfl, rfl, hId⟩ hI0 ih ?h1 ?h2 ?h3 ?hsub
        (case h1 => rfl)
        (case h2 => rfl)
        (case h3 => (intro y a1 a2 a3 a4 a5 a6; simp only [lawM, a1, a2, a3, a4, a5, a6, if_false]))
        (case hsub => (repeat' (first | exact List.forall_mem_nil _ | (refine List.forall_mem_cons.mpr ⟨by k_mem, ?_⟩)))))
  case done =>
    rintro ⟨W, tW, due, dv, nw, s1, s2, s3, s4⟩ ⟨hRe, hDu⟩ h tk F N
    dsimp only at hRe hDu F N ⊢
    have hWs : W.length ≤ 2000 := ws_le' hRe.short hW0 hn5
    obtain ⟨tail, hrows, hlen, hne, hwt, hnone, hsome⟩ := plain hE1 hRe
    have hlen' : tail.length ≤ 4001 := by clear F N; exact Nat.le_trans hlen (Nat.le_trans hn5 (by decide))
    cases due with
    | none =>
      obtain ⟨rfl, rfl⟩ := hDu
      k_steps
      rename Fr _ _ _ _ => F9
      rename News _ _ _ _ => N9
      refine Halt.mk ?_
      refine' rb_spec (W := W) (news := []) (ex := []) ?B F9 ?KX (fun p hp => nomatch hp) ?T hWs hrows hlen' hne hwt (List.forall_mem_nil _) (List.forall_mem_nil _) ?kQ ?kE
      (case B => assumption)
      (case KX => assumption)
      (case T => assumption)
      (case kE => intro b ws hf; rw [hnone rfl] at hf; cases hf)
      (case kQ =>
        intro _ h7 tk7 t0 t1 t2 t3 t4 t5 t6 y0 y1 y2 y3 y4 y5 y6 y7 y8 y9 z0 z1 z2 z3 z4 z5 z6 nl nd li lo lc it il o2 l2 ct ci F7 N7
        clear F9 N9
        dsimp only [resX, List.cons_append, List.nil_append] at N7
        k_steps)
    | some pq =>
      obtain ⟨p, q⟩ := pq
      obtain ⟨d, tp, tq, nn, rfl, rfl, hId⟩ := hDu
      obtain ⟨ws, hfd, hjn⟩ := hsome p q rfl
      have hqok := due_ok hRe p q rfl
      k_steps
      rename Fr _ _ _ _ => F9
      rename News _ _ _ _ => N9
      refine Halt.mk ?_
      have hm9 := N9 (d, ({ cls := .type "tuple", data := .seq [Value.int p tp, Value.str q tq].toArray nn } : Obj)) (by k_mem)
      refine' rb_spec (W := W) (news := [(d, ({ cls := .type "tuple", data := .seq [Value.int p tp, Value.str q tq].toArray nn } : Obj))]) (ex := [(d, ({ cls := .type "tuple", data := .seq [Value.int p tp, Value.str q tq].toArray nn } : Obj))]) ?B F9 ?KX (fun x hx => by rw [List.mem_singleton.mp hx]; exact hm9) ?T hWs hrows hlen' hne hwt (fun x hx => hx) ?hexb ?kQ ?kE
      (case B => assumption)
      (case KX => assumption)
      (case T => assumption)
      (case hexb => intro x hx; rw [List.mem_singleton.mp hx]; exact hm9.2.2)
      (case kQ => intro hn; rw [hfd] at hn; cases hn)
      (case kE =>
        intro b ws2 hf h7 g7 tk7 e da x1 x2 x3 b0 b1 b2 t1 t2 t3 Fg Ug R
        clear F9 N9
        have hf2 := Option.some.inj (hfd.symm.trans hf)
        have hp1 : p = b := congrArg Prod.fst hf2
        have hp2 : ws = ws2 := congrArg Prod.snd hf2
        subst hp1 hp2
        rw [hjn] at R
        obtain ⟨nm', q', Nn, bs, bm, hdct, sn, sub, ab, col, dd', k0', k1', k2', k3', k5', nId, hC0, hCb⟩ := cls52 _
        k_steps
        refine' caughtD (C := 52) ?eK Fg Ug R ?eX ?eT ?ex ?hC hCb ?kk
        (case eK => assumption)
        (case eX => assumption)
        (case eT => k_asm)
        (case ex => k_is)
        (case hC =>
          rename Frag.In _ _ => KX9
          exact KX9 _ _ hC0)
        intro h8 tk8 vs F8 N8
        clear R Ug Fg hC0 hCb
        k_steps
        (skip))
end Mine
end
theorem PySem.Challenge.cw_rg0145_01_holds : PySem.Challenge.rw_rg0145_01.Holds :=
  Mine.lawT
