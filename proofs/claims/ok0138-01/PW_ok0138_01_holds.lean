import PyProof.Rows.All
import Wide.All
import OpenK.AllK
import Wide.FinOn
import PySem.Challenge.RW_ok0138_01
open PySem PySem.W PyProof.Rows PySem.Calls
set_option Elab.async false
set_option maxRecDepth 100000
set_option compiler.extract_closed false
set_option rowWalk.seconds 0
namespace Mine
section
/-- a name that the library would take for an equation of its own about the text: the proofs here do without it -/
theorem pre.tw7467089575007777234 : True := trivial
set_option Elab.async true in
theorem pre : PySem.Challenge.pw_ok0138_01.modules.isEmpty = true := by
  first | k_qdec | rfl
section
set_option hygiene false
local macro_rules | `(tactic| o_head $H) => `(tactic| exact h $H)
set_option maxHeartbeats 8000000 in
/-- the objects of the top, as a constant: this theorem is there for the constant alone -/
theorem hd (h : Hook → PySem.Challenge.rw_ok0138_01.row.Holds) : PySem.Challenge.rw_ok0138_01.row.Holds := by
  k_head
end
noncomputable def topV : Program := { PySem.Challenge.pw_ok0138_01 with main := { PySem.Challenge.pw_ok0138_01.main with
  body := [0, 2, 3, 4, 5, 7, 8, 9, 10, 11, 13, 14, 15, 17, 19, 20, 21, 22, 23, 24, 25, 26].filterMap fun i => PySem.Challenge.pw_ok0138_01.main.body[i]? } }
noncomputable def topLv : List (Str × WData) := [(Str.ofString "ORDER_8", WData.tuple ([0, 1, 8, 16, 9, 2, 3, 10, 17, 24, 32, 25, 18, 11, 4, 5, 12, 19, 26, 33, 40, 48, 41, 34, 27, 20, 13, 6, 7, 14, 21, 28, 35, 42, 49, 56, 57, 50, 43, 36, 29, 22, 15, 23, 30, 37, 44, 51, 58, 59, 52, 45, 38, 31, 39, 46, 53, 60, 61, 54, 47, 55, 62, 63].map WData.int))]
noncomputable def topAs : List Addr := [2, 3, 15, 17, 18, 20, 21, 22, 24, 25, 27, 28, 246, 247, 249, 250, 252, 253, 254, 256, 257, 259, 260, 261, 262, 263, 264, 265, 266, 267, 268, 269, 270, 271, 272, 274, 275, 277, 278, 279, 281, 282, 284, 285, 286, 288, 289, 291, 292, 293, 295, 296, 298, 299, 307, 309, 310, 312, 313, 314, 315, 316, 317, 318, 328, 330, 331, 333, 334, 335, 338, 339, 340, 343, 344, 345, 347, 348, 350, 351, 352, 354, 355, 357, 358, 359, 361, 362, 364, 365, 366, 368, 369, 371, 372, 373, 375, 376, 378, 379, 380, 381, 382, 383, 384, 394, 396, 397, 399, 400, 401, 403, 404, 406, 407, 408, 410, 411, 413, 414, 415, 416, 417, 418, 419, 422, 424, 425, 427, 428, 429, 431, 432, 434, 435, 436, 438, 439, 441, 442, 443, 446, 447, 448, 451, 452, 453, 456, 457, 458, 461, 462, 463, 466, 467]
theorem topAs_eq (P : Params) : topAs = (hd.heap_1 P).map (·.1) := by kernel_rfl
def TopWalk : Prop := ∀ d kwd, defOf topV PySem.Challenge.rw_ok0138_01.row.name = some (d, kwd) →
  WalkO topV [Str.ofString "ORDER_8"] (XL topV topLv) (kHook hd.heap_1 topAs topAs_eq).says PySem.Challenge.rw_ok0138_01.row.toRowW d kwd fun f vs => PySem.call f vs
theorem topWalk_of {d : DefRec} {kwd : List (Str × Expr)} (h : defOf topV PySem.Challenge.rw_ok0138_01.row.name = some (d, kwd))
    (c : WalkO topV [Str.ofString "ORDER_8"] (XL topV topLv) (kHook hd.heap_1 topAs topAs_eq).says PySem.Challenge.rw_ok0138_01.row.toRowW d kwd fun f vs => PySem.call f vs) : TopWalk := by
  intro d' kwd' h'
  have := h.symm.trans h'
  cases this
  exact c
end
section
/-- a mark at which the walk stands still -/
def Stop (P : Prop) : Prop := P
theorem stop_of {P : Prop} (h : Stop P) : P := h
theorem Stop.out {P : Prop} (h : Stop P) : P := h

section
variable {prog : Program} {w : World} {A : Around} {h₀ : Heap} {L : Addr} {m : Str → Option Value} {env : Env} {ct elt : Expr} {x : Str} {scope : Scope} {cl : List (Str × Addr)} {s : Shared} {S : List (Addr × Obj) → Prop} {P : Nat → Value → Prop} {Fin : List Value → List (Addr × Obj) → Prop} {news : List (Addr × Obj)}

/-- a comprehension with a test, by what holds of what was made so far and of the ledger -/
theorem compT_inv {n : Nat} (I : Nat → List Value → List (Addr × Obj) → Prop) (h0 : I 0 [] news)
    (turn : ∀ i ys nw v J oJ C oC D m₂ h tk (E' : Value → Shared → Prop), i < n → I i ys nw → P i v → LCg.NsObj oC m₂ → m₂ x = some v → Fr h₀ L h m → News h₀ L h ((J, oJ) :: (C, oC) :: (D, LCg.lst ys) :: nw) → LCg.Off3 J C D nw → ((@Ne Nat J C) ∧ (@Ne Nat J D) ∧ (@Ne Nat C D)) →
      wpAny (model prog w) A (isTrue ct (compEnvC scope cl C env) (eval ct (compEnvC scope cl C env))) (fun b s' => if b = true then wpAny (model prog w) A (eval elt (compEnvC scope cl C env)) (LCg.CompEnd h₀ L m { s with heap := h, toks := tk } J oJ C oC D (LCg.lst ys) S (fun y nw' => I (i + 1) (ys ++ [y]) nw')) E' s'
        else LCg.CompEnd h₀ L m { s with heap := h, toks := tk } J oJ C oC D (LCg.lst ys) S (fun _ nw' => I (i + 1) ys nw') Value.none s') E' { s with heap := h, toks := tk })
    (fin : ∀ ys nw, I n ys nw → Fin ys nw) : LCt.CompRestT prog w A h₀ L m env ct elt x scope cl s S P Fin n 0 [] news := by
  have key : ∀ (j i : Nat) (ys : List Value) (nw : List (Addr × Obj)), i + j = n → I i ys nw → LCt.CompRestT prog w A h₀ L m env ct elt x scope cl s S P Fin j i ys nw := by
    intro j
    induction j with
    | zero =>
      intro i ys nw hi hI
      have e : i = n := by omega
      subst e
      exact LCt.CompRestT.zero (fin ys nw hI)
    | succ j ih =>
      intro i ys nw hi hI
      refine LCt.CompRestT.succ ?_
      intro v J oJ C oC D m₂ h tk E' hv hC hx F N off ne
      refine wpAny_mono (turn i ys nw v J oJ C oC D m₂ h tk E' (by omega) hI hv hC hx F N off ne) (fun b s₂ hq => ?_) fun _ _ e => e
      cases b with
      | true =>
        simp only [if_true] at hq ⊢
        refine wpAny_mono hq (fun y s₃ hr => ?_) fun _ _ e => e
        obtain ⟨h', tk', nw', e, F', N', off', hS, hI'⟩ := hr
        exact ⟨h', tk', nw', e, F', N', off', hS, ih (i + 1) _ nw' (by omega) hI'⟩
      | false =>
        simp only [Bool.false_eq_true, if_false] at hq ⊢
        obtain ⟨h', tk', nw', e, F', N', off', hS, hI'⟩ := hq
        exact ⟨h', tk', nw', e, F', N', off', hS, ih (i + 1) _ nw' (by omega) hI'⟩
  exact key n 0 [] news (by omega) h0

/-- the same without a test -/
theorem compU_inv {n : Nat} (I : Nat → List Value → List (Addr × Obj) → Prop) (h0 : I 0 [] news)
    (turn : ∀ i ys nw v J oJ C oC D m₂ h tk (E' : Value → Shared → Prop), i < n → I i ys nw → P i v → LCg.NsObj oC m₂ → m₂ x = some v → Fr h₀ L h m → News h₀ L h ((J, oJ) :: (C, oC) :: (D, LCg.lst ys) :: nw) → LCg.Off3 J C D nw → ((@Ne Nat J C) ∧ (@Ne Nat J D) ∧ (@Ne Nat C D)) →
      wpAny (model prog w) A (eval elt (compEnvC scope cl C env)) (LCg.CompEnd h₀ L m { s with heap := h, toks := tk } J oJ C oC D (LCg.lst ys) S (fun y nw' => I (i + 1) (ys ++ [y]) nw')) E' { s with heap := h, toks := tk })
    (fin : ∀ ys nw, I n ys nw → Fin ys nw) : LCg.CompRest prog w A h₀ L m env elt x scope cl s S P Fin n 0 [] news := by
  have key : ∀ (j i : Nat) (ys : List Value) (nw : List (Addr × Obj)), i + j = n → I i ys nw → LCg.CompRest prog w A h₀ L m env elt x scope cl s S P Fin j i ys nw := by
    intro j
    induction j with
    | zero =>
      intro i ys nw hi hI
      have e : i = n := by omega
      subst e
      exact LCg.CompRest.zero (fin ys nw hI)
    | succ j ih =>
      intro i ys nw hi hI
      refine LCg.CompRest.succ ?_
      intro v J oJ C oC D m₂ h tk E' hv hC hx F N off ne
      refine wpAny_mono (turn i ys nw v J oJ C oC D m₂ h tk E' (by omega) hI hv hC hx F N off ne) (fun y s₂ hr => ?_) fun _ _ e => e
      obtain ⟨h', tk', nw', e, F', N', off', hS, hI'⟩ := hr
      exact ⟨h', tk', nw', e, F', N', off', hS, ih (i + 1) _ nw' (by omega) hI'⟩
  exact key n 0 [] news (by omega) h0
end

theorem mem_ints {vs : List Value} {ns : List Int} (h : IntsAre vs ns) {v : Value} (hv : v ∈ vs) : ∃ k t, v = .int k t ∧ k ∈ ns := by
  obtain ⟨i, hi, rfl⟩ := List.getElem_of_mem hv
  obtain ⟨k, t, e, hk⟩ := IntsAre.at h i vs[i] (List.getElem?_eq_getElem hi)
  exact ⟨k, t, e, List.mem_of_getElem? hk⟩
theorem ints_elim {vs : List Value} {v : Value} {ns : List Int} {P : Prop} (hv : v ∈ vs) (h : IntsAre vs ns) (k : ∀ k t, v = .int k t → k ∈ ns → P) : P := by
  obtain ⟨a, t, e, ha⟩ := mem_ints h hv
  exact k a t e ha
noncomputable abbrev tupO (vs : List Value) : Obj := { cls := .type "tuple", data := .seq vs.toArray }
theorem tups_elim {h₀ h : Heap} {L : Addr} {news : List (Addr × Obj)} {vs : List Value} {v : Value} {P : Prop} (ok : Addr → Int → Int → Prop) (_ : News h₀ L h news) (hv : v ∈ vs)
    (hs : ∀ v ∈ vs, ∃ t b tb e te, v = .ref t ∧ (t, tupO [.int b tb, .int e te]) ∈ news ∧ ok t b e) (k : ∀ t b tb e te, v = .ref t → (t, tupO [.int b tb, .int e te]) ∈ news → ok t b e → P) : P := by
  obtain ⟨t, b, tb, e, te, h1, h2, h3⟩ := hs v hv
  exact k t b tb e te h1 h2 h3
theorem news_again {h₀ h : Heap} {L : Addr} {news : List (Addr × Obj)} {p : Addr × Obj} (N : News h₀ L h news) (hm : p ∈ news) : News h₀ L h (p :: news) := fun q hq => by
  rcases List.mem_cons.mp hq with rfl | hq
  · exact N _ hm
  · exact N q hq
theorem any_mem {l : List Int} {k : Int} {b : Bool} (h : (l.any fun x => x == k) = b) : (k ∈ l) = (b = true) := by
  subst h
  simp
theorem last_item {vs : List Value} {ns : List Int} (h : IntsAre vs ns) (hn : ns ≠ []) : ∃ k t, vs.toArray[((-1 : Int) + (vs.toArray.size : Int)).toNat]? = some (Value.int k t) ∧ ns.getLast? = some k := by
  have hl := IntsAre.length h
  have h0 : 0 < ns.length := List.length_pos_iff.mpr hn
  obtain ⟨t, ht⟩ := h.get (ns.length - 1) (ns[ns.length - 1]'(by omega)) (by simp)
  refine ⟨ns[ns.length - 1]'(by omega), t, ?_, ?_⟩
  · have e : ((-1 : Int) + (vs.toArray.size : Int)).toNat = ns.length - 1 := by simp only [List.size_toArray]; omega
    rw [e]
    simpa using ht
  · rw [List.getLast?_eq_getElem?]
    exact List.getElem?_eq_getElem _
theorem item_last {prog : Program} {w : World} {A : Around} {E : Value → Shared → Prop} {s : Shared} {value slice : PySem.Expr} {l : Addr} {vs : List Value} {ns : List Int} {u : Tok} {Q : Value → Shared → Prop} (hl : s.heap.IsList l vs.toArray) (hi : IntsAre vs ns) (hn : ns ≠ [])
    (h : ∀ k t, ns.getLast? = some k → Q (.int k t) s) (hs : subscripted slice false (.ref l) (.int (-1) u) = operate [.ref l, .int (-1) u] (getItem (.ref l) (.int (-1) u)) := by with_unfolding_all rfl) :
    wpAny (model prog w) A (subscriptTail value slice (.ref l) (.int (-1) u)) Q E s := by
  obtain ⟨k, t, h1, h2⟩ := last_item hi hn
  have h0 : 0 < ns.length := List.length_pos_iff.mpr hn
  have hlen := IntsAre.length hi
  exact tail_any hl.typeIs slot_list_getitem.lookup (wpAny_getItem_list_neg hl (by decide) (by simp only [List.size_toArray]; omega) (by decide) h1 (h k t h2)) hs
/-- a fact that is kept for later: no tactic takes it for another -/
structure Kept (P : Prop) : Prop where
  out : P
theorem cut_at {α : Type} {M : Model} {A : Around} {t : Sem α} {Q : α → Shared → Prop} {E : Value → Shared → Prop} {s : Shared} {mb : Str → Option Value} {X : Prop} (P : (Str → Option Value) → Heap → Nat → Prop)
    (main : Kept (∀ h tk, P mb h tk → wpAny M A t Q E { s with heap := h, toks := tk }) → X) (pf : ∀ h tk, P mb h tk → wpAny M A t Q E { s with heap := h, toks := tk }) : X := main ⟨pf⟩
theorem fr_dup {h₀ h : Heap} {L : Addr} {x : Str} {a b : Option Value} {r : Str → Option Value} (F : Fr h₀ L h (fun y => if y = x then a else if y = x then b else r y)) : Fr h₀ L h (fun y => if y = x then a else r y) := by
  have e : (fun y => if y = x then a else if y = x then b else r y) = fun y => if y = x then a else r y := by
    funext y
    split <;> rfl
  exact e ▸ F
/-- the functions that are proved by themselves -/
noncomputable def ownFns : List Addr := [28, 260, 278, 285, 292, 428, 447, 452, 457, 462]
theorem stop_ref {M : Model} {A : Around} {a : Addr} {vs : List Value} {Q E : Value → Shared → Prop} {s : Shared} (_ : ownFns.contains a = true) (h : Stop (wpAny M A (call (.ref a) vs) Q E s)) : wpAny M A (call (.ref a) vs) Q E s := stop_of h
end
section
section
variable {prog : Program} {w : World} {A : Around} {E : Value → Shared → Prop} {s : Shared} {env : Env} {h₀ : Heap} {x : Str} {body : List Stmt} {Q : Flow → Shared → Prop}

/-- the frame behind a turn: what is not stored stands as ahead of the loop -/
def SameOff (x : Str) (stored : List Str) (m₀ m : Str → Option Value) : Prop := ∀ z, z ≠ x → stored.contains z = false → m z = m₀ z
theorem fr_in {L : Addr} {h : Heap} {stored : List Str} {m₀ m₁ : Str → Option Value} {v : Value} (hm : SameOff x stored m₀ m₁)
    (F : Fr h₀ L h (fun y => if y = x then some v else m₁ y)) : Fr h₀ L h (fun y => if y = x then some v else if stored.contains y then m₁ y else m₀ y) := by
  have e : (fun y => if y = x then some v else if stored.contains y then m₁ y else m₀ y) = fun y => if y = x then some v else m₁ y := by
    funext y
    by_cases h1 : y = x
    · simp [h1]
    · simp only [if_neg h1]
      cases h2 : stored.contains y with
      | true => simp
      | false => simp only [Bool.false_eq_true, if_false]; exact (hm y h1 h2).symm
  rw [e]; exact F
theorem fr_out {L : Addr} {h : Heap} {stored : List Str} {m₀ m₁ : Str → Option Value} (hm : SameOff x stored m₀ m₁)
    (F : Fr h₀ L h m₁) : Fr h₀ L h (fun y => if y = x then m₁ y else if stored.contains y then m₁ y else m₀ y) := by
  have e : (fun y => if y = x then m₁ y else if stored.contains y then m₁ y else m₀ y) = m₁ := by
    funext y
    by_cases h1 : y = x
    · simp [h1]
    · simp only [if_neg h1]
      cases h2 : stored.contains y with
      | true => simp
      | false => simp only [Bool.false_eq_true, if_false]; exact (hm y h1 h2).symm
  rw [e]; exact F

abbrev TurnEnd (h₀ : Heap) (L : Addr) (x : Str) (stored : List Str) (m₀ : Str → Option Value) (J : List (Addr × Obj) → Prop) : (Str → Option Value) → List (Addr × Obj) → Prop := fun m' nx => J nx ∧ SameOff x stored m₀ m'

theorem rangeM {r : Addr} {a₀ b₀ : Int} {t₀ u₀ v₀ : Tok} {n : Nat} {m₀ : Str → Option Value} {news : List (Addr × Obj)} (stored : List Str) (J : Nat → List (Addr × Obj) → Prop)
    (hh : A.handled = none) (hr : IsRange s.heap r a₀ b₀ 1 t₀ u₀ v₀) (hsmall : Builtin.Range.small a₀ b₀ 1 = true) (hn : Builtin.Range.rangeSize a₀ b₀ 1 = (n : Int)) (F : Fr h₀ env.locals s.heap m₀) (N : News h₀ env.locals s.heap news) (hj : J 0 news)
    (turn : ∀ (i : Nat) t (u : Str → Option Value) nx h tk own, i < n → nx.map (·.1) = news.map (·.1) → OwnOff own (news.map (·.1)) → J i nx →
      Fr h₀ env.locals h (fun y => if y = x then some (.int (a₀ + (i : Int)) t) else if stored.contains y then u y else m₀ y) → News h₀ env.locals h (nx ++ own) →
      wpAny (model prog w) A (execs body env) (InvPostN h₀ env.locals (TurnEnd h₀ env.locals x stored m₀ (J (i + 1))) own (news.map (·.1)) { s with heap := h, toks := tk } Q) E { s with heap := h, toks := tk })
    (done : ∀ (u : Str → Option Value) nx h tk, nx.map (·.1) = news.map (·.1) → J n nx → Fr h₀ env.locals h (fun y => if y = x then u y else if stored.contains y then u y else m₀ y) → News h₀ env.locals h nx → Q .next { s with heap := h, toks := tk }) :
    wpAny (model prog w) A (pyIter (.ref r)) (fun it s₂ => LoopAtV prog w A h₀ env x body Q E it s₂) E s := by
  refine wpAny_pyIter_range hr hsmall ?_
  have W : Walks prog w A s.heap.objs.size [s.heap.objs.size] [s.heap.objs.size] n (fun i v => i < n ∧ ∃ t, v = .int (a₀ + i * 1) t)
      (fun i h => IsRangeIter h s.heap.objs.size (a₀ + (i : Nat) * 1) ((n : Int) - (i : Nat)) 1) := (Walks.range hh _ a₀ 1 n).bound
  refine loop_invN (fun i m nx => nx.map (·.1) = news.map (·.1) ∧ J i nx ∧ SameOff x stored m₀ m) W ?_ ?_ ?_ ?_ (by show IsRangeIter _ _ _ _ _; rw [hn]; simpa using Heap.get?_push_size _ rfl) (F.push _) (fun p hp => ⟨Heap.get?_push_of_some _ (N p hp).1, (N p hp).2⟩) ⟨rfl, hj, fun _ _ _ => rfl⟩ ?_ ?_
  · intro hm
    exact absurd F.ns.lt ((List.mem_singleton.mp hm) ▸ Nat.lt_irrefl _)
  · intro b hb
    rw [List.mem_singleton.mp hb]
    exact next_is_new F
  · intro p hp hI
    exact absurd (Heap.lt_size (N p hp).1) ((List.mem_singleton.mp hI) ▸ Nat.lt_irrefl _)
  · intro p hp hI
    exact absurd (Heap.lt_size (N p hp).1) ((List.mem_singleton.mp hI) ▸ Nat.lt_irrefl _)
  · rintro i v m₁ nx h tk own hi ⟨_, t, rfl⟩ hadr hoff ⟨_, hJ, hm⟩ F₁ N₁
    have e1 : a₀ + (i : Int) * 1 = a₀ + (i : Int) := by omega
    rw [e1] at F₁
    refine wpAny_mono (turn i t m₁ nx h tk own hi hadr hoff hJ (fr_in hm F₁) N₁) (fun f s₂ p => ?_) fun _ _ e => e
    have up : InvEndN h₀ env.locals (TurnEnd h₀ env.locals x stored m₀ (J (i + 1))) own (news.map (·.1)) { s with heap := h, toks := tk } s₂ →
        InvEndN h₀ env.locals (fun m nx => nx.map (·.1) = news.map (·.1) ∧ J (i + 1) nx ∧ SameOff x stored m₀ m) own (news.map (·.1)) { s with heap := h, toks := tk } s₂ := by
      rintro ⟨h', tk', m', news', nx', e', F', N', hn', ho', ha, hS⟩
      exact ⟨h', tk', m', news', nx', e', F', N', hn', ho', ha, ha, hS⟩
    cases f with
    | ret v => exact p
    | brk => exact p
    | next => exact up p
    | cont => exact up p
  · rintro m₁ nx h tk ⟨hadr, hJ, hm⟩ F₁ N₁
    exact done m₁ nx h tk hadr hJ (fr_out hm F₁) N₁

theorem heapM {l : Addr} {vs : List Value} {m₀ : Str → Option Value} {news : List (Addr × Obj)} (stored : List Str) (J : Nat → List (Addr × Obj) → Prop)
    (hh : A.handled = none) (hls : s.heap.IsList l vs.toArray) (hlL : l ≠ env.locals) (hln : ∀ q ∈ news, q.1 ≠ l) (F : Fr h₀ env.locals s.heap m₀) (N : News h₀ env.locals s.heap news) (hj : J 0 news)
    (turn : ∀ (i : Nat) v (u : Str → Option Value) nx h tk own, vs[i]? = some v → nx.map (·.1) = news.map (·.1) → OwnOff own (news.map (·.1)) → J i nx →
      Fr h₀ env.locals h (fun y => if y = x then some v else if stored.contains y then u y else m₀ y) → News h₀ env.locals h (nx ++ own) →
      wpAny (model prog w) A (execs body env) (InvPostN h₀ env.locals (TurnEnd h₀ env.locals x stored m₀ (J (i + 1))) own (news.map (·.1)) { s with heap := h, toks := tk } Q) E { s with heap := h, toks := tk })
    (done : ∀ (u : Str → Option Value) nx h tk, nx.map (·.1) = news.map (·.1) → J vs.length nx → Fr h₀ env.locals h (fun y => if y = x then u y else if stored.contains y then u y else m₀ y) → News h₀ env.locals h nx → Q .next { s with heap := h, toks := tk }) :
    wpAny (model prog w) A (pyIter (.ref l)) (fun it s₂ => LoopAtV prog w A h₀ env x body Q E it s₂) E s := by
  obtain ⟨ol, hol, _⟩ := id hls
  have hne : l ≠ s.heap.objs.size := Nat.ne_of_lt (Heap.lt_size hol)
  refine wpAny_pyIter_list hls ?_
  have W := Walks.list (prog := prog) (w := w) hh s.heap.objs.size l hne vs.toArray
  have hlen : vs.toArray.size = vs.length := by simp
  rw [hlen] at W
  refine loop_invN (fun i m nx => nx.map (·.1) = news.map (·.1) ∧ J i nx ∧ SameOff x stored m₀ m) W ?_ ?_ ?_ ?_ ⟨⟨_, Heap.get?_push_size _ rfl, rfl, rfl⟩, hls.at fun o e => Heap.get?_push_of_some _ e⟩ (F.push _) (fun p hp => ⟨Heap.get?_push_of_some _ (N p hp).1, (N p hp).2⟩) ⟨rfl, hj, fun _ _ _ => rfl⟩ ?_ ?_
  · intro hm
    rcases List.mem_cons.mp hm with e | hm
    · exact absurd F.ns.lt (e ▸ Nat.lt_irrefl _)
    · exact hlL (List.mem_singleton.mp hm).symm
  · intro b hb
    rw [List.mem_singleton.mp hb]
    exact next_is_new F
  · intro p hp hI
    exact absurd (Heap.lt_size (N p hp).1) ((List.mem_singleton.mp hI) ▸ Nat.lt_irrefl _)
  · intro p hp hI
    rcases List.mem_cons.mp hI with e | hI
    · exact absurd (Heap.lt_size (N p hp).1) (e ▸ Nat.lt_irrefl _)
    · exact hln p hp (List.mem_singleton.mp hI)
  · rintro i v m₁ nx h tk own hi hP hadr hoff ⟨_, hJ, hm⟩ F₁ N₁
    have hP' : vs[i]? = some v := by simpa using hP
    refine wpAny_mono (turn i v m₁ nx h tk own hP' hadr hoff hJ (fr_in hm F₁) N₁) (fun f s₂ p => ?_) fun _ _ e => e
    have up : InvEndN h₀ env.locals (TurnEnd h₀ env.locals x stored m₀ (J (i + 1))) own (news.map (·.1)) { s with heap := h, toks := tk } s₂ →
        InvEndN h₀ env.locals (fun m nx => nx.map (·.1) = news.map (·.1) ∧ J (i + 1) nx ∧ SameOff x stored m₀ m) own (news.map (·.1)) { s with heap := h, toks := tk } s₂ := by
      rintro ⟨h', tk', m', news', nx', e', F', N', hn', ho', ha, hS⟩
      exact ⟨h', tk', m', news', nx', e', F', N', hn', ho', ha, ha, hS⟩
    cases f with
    | ret v => exact p
    | brk => exact p
    | next => exact up p
    | cont => exact up p
  · rintro m₁ nx h tk ⟨hadr, hJ, hm⟩ F₁ N₁
    exact done m₁ nx h tk hadr hJ (fr_out hm F₁) N₁

theorem baseM {l : Addr} {vs : List Value} {m₀ : Str → Option Value} {news : List (Addr × Obj)} (stored : List Str) (J : Nat → List (Addr × Obj) → Prop)
    (hh : A.handled = none) (hl : h₀.IsList l vs.toArray) (F : Fr h₀ env.locals s.heap m₀) (N : News h₀ env.locals s.heap news) (hj : J 0 news)
    (turn : ∀ (i : Nat) v (u : Str → Option Value) nx h tk own, vs[i]? = some v → nx.map (·.1) = news.map (·.1) → OwnOff own (news.map (·.1)) → J i nx →
      Fr h₀ env.locals h (fun y => if y = x then some v else if stored.contains y then u y else m₀ y) → News h₀ env.locals h (nx ++ own) →
      wpAny (model prog w) A (execs body env) (InvPostN h₀ env.locals (TurnEnd h₀ env.locals x stored m₀ (J (i + 1))) own (news.map (·.1)) { s with heap := h, toks := tk } Q) E { s with heap := h, toks := tk })
    (done : ∀ (u : Str → Option Value) nx h tk, nx.map (·.1) = news.map (·.1) → J vs.length nx → Fr h₀ env.locals h (fun y => if y = x then u y else if stored.contains y then u y else m₀ y) → News h₀ env.locals h nx → Q .next { s with heap := h, toks := tk }) :
    wpAny (model prog w) A (pyIter (.ref l)) (fun it s₂ => LoopAtV prog w A h₀ env x body Q E it s₂) E s := by
  have hlt : l < h₀.objs.size := by obtain ⟨ol, hol, _⟩ := id hl; exact Heap.lt_size hol
  refine heapM stored J hh (hl.at fun o e => F.keep l o e) (Nat.ne_of_lt (Nat.lt_of_lt_of_le hlt F.above)) (fun q hq e => ?_) F N hj turn done
  obtain ⟨ol, hol, _⟩ := id hl
  have z := (N q hq).2.2
  rw [e, hol] at z
  cases z

/-- the end of a turn -/
theorem turn_end {stored : List Str} {m₀ : Str → Option Value} {J : List (Addr × Obj) → Prop} {L : Addr} {m' : Str → Option Value} {own news' nx : List (Addr × Obj)} {adr : List Addr} {s₁ : Shared} {h' : Heap} {tk : Nat} (F : Fr h₀ L h' m') (N : News h₀ L h' news')
    (hj : J nx) (ha : nx.map (·.1) = adr) (hn : ∀ p ∈ nx, p ∈ news') (ho : ∀ p ∈ own, p ∈ news') (hm : SameOff x stored m₀ m') : InvEndN h₀ L (TurnEnd h₀ L x stored m₀ J) own adr s₁ { s₁ with heap := h', toks := tk } :=
  InvEndN.intro F N ⟨hj, hm⟩ ha hn ho
end
theorem same_turn {x : Str} {stored : List Str} {m₀ u : Str → Option Value} {v : Option Value} : SameOff x stored m₀ (fun y => if y = x then v else if stored.contains y then u y else m₀ y) := fun z h1 h2 => by
  simp only [if_neg h1, h2, Bool.false_eq_true, if_false]
theorem same_inner {x y : Str} {stored st : List Str} {m₀ m u v : Str → Option Value} (h : SameOff x stored m₀ m) (hy : stored.contains y = true) (hs : ∀ z, st.contains z = true → stored.contains z = true) :
    SameOff x stored m₀ (fun z => if z = y then v z else if st.contains z then u z else m z) := fun z h1 h2 => by
  have n1 : z ≠ y := fun e => by rw [e, hy] at h2; cases h2
  have n2 : st.contains z = false := by
    cases q : st.contains z with
    | false => rfl
    | true => rw [hs z q] at h2; cases h2
  simp only [if_neg n1, n2, Bool.false_eq_true, if_false]
  exact h z h1 h2
theorem same_set {x y : Str} {stored : List Str} {m₀ m : Str → Option Value} {v : Option Value} (h : SameOff x stored m₀ m) (hy : stored.contains y = true) : SameOff x stored m₀ (fun z => if z = y then v else m z) := fun z h1 h2 => by
  have n1 : z ≠ y := fun e => by rw [e, hy] at h2; cases h2
  simp only [if_neg n1]
  exact h z h1 h2
theorem turn_led {x : Str} {h₀ : Heap} {stored : List Str} {m₀ : Str → Option Value} {J : List (Addr × Obj) → Prop} {L l : Addr} {o : Obj} {m' : Str → Option Value} {own own' : List (Addr × Obj)} {adr : List Addr} {s₁ : Shared} {h' : Heap} {tk : Nat} (F : Fr h₀ L h' m') (N : News h₀ L h' ((l, o) :: (own' ++ own)))
    (hj : J ((l, o) :: own')) (ha : ((l, o) :: own').map (·.1) = adr) (hm : SameOff x stored m₀ m') : InvEndN h₀ L (TurnEnd h₀ L x stored m₀ J) own adr s₁ { s₁ with heap := h', toks := tk } :=
  turn_end F N hj ha (fun p hp => by
    rcases List.mem_cons.mp hp with rfl | hp
    · exact .head _
    · exact .tail _ (List.mem_append_left _ hp)) (fun p hp => .tail _ (List.mem_append_right _ hp)) hm
end
section
section
variable {prog : Program} {w : World} {A : Around} {E : Value → Shared → Prop} {R : Result → Shared → Prop} {s : Shared}

noncomputable abbrev comp2 (elt it1 it2 ct : Expr) (x y : Str) (px py : Pos) (scope : Scope) (pos : Pos) : Expr := .ListComp elt [⟨.Name x px, it1, [], 0⟩, ⟨.Name y py, it2, [ct], 0⟩] scope pos

theorem compTurn_in (elt it1 it2 ct : Expr) (x y : Str) (px py : Pos) (scope : Scope) (pos : Pos) (it acc : Value) (env : Env) :
    compTurn (comp2 elt it1 it2 ct x y px py scope pos) 1 it acc env = (do
      standAt it2.pos
      match ← pyNext it with
      | none => pure (.done .next)
      | some v =>
        letOwnedTupleGo (.Name y py) it v
        assign (.Name y py) env v
        let mut ok := true
        for c in [ct] do
          if ok then ok ← isTrue c env (eval c env)
        if ok then
          (do let _ ← call (.builtin "list.append") [acc, ← eval elt env])
        again (.compLoop (comp2 elt it1 it2 ct x y px py scope pos) 1 it acc env)) := by rfl

theorem compTurn_out (elt it1 it2 ct : Expr) (x y : Str) (px py : Pos) (scope : Scope) (pos : Pos) (it acc : Value) (env : Env) :
    compTurn (comp2 elt it1 it2 ct x y px py scope pos) 0 it acc env = (do
      standAt it1.pos
      match ← pyNext it with
      | none => pure (.done .next)
      | some v =>
        letOwnedTupleGo (.Name x px) it v
        assign (.Name x px) env v
        let mut ok := true
        for c in ([] : List Expr) do
          if ok then ok ← isTrue c env (eval c env)
        if ok then
          let z ← eval it2 env
          standAt it2.pos
          let z ← foldedSetIterable it2 env z
          let jt ← holding [z] (pyIter z)
          let _ ← runOwn (.compStart (comp2 elt it1 it2 ct x y px py scope pos) 1 jt acc env) env
          again (.compLoop (comp2 elt it1 it2 ct x y px py scope pos) 0 it acc env)
        else again (.compLoop (comp2 elt it1 it2 ct x y px py scope pos) 0 it acc env)) := by rfl

theorem loop_in {elt it1 it2 ct : Expr} {x y : Str} {px py : Pos} {scope : Scope} {pos : Pos} {it acc : Value} {env : Env} (I : Nat → Shared → Prop)
    (turn : ∀ n s, I n s → wpAny (model prog w) A (pyNext it) (fun r s₁ => match r with
      | none => R (.ok .next) s₁
      | some v => wpAny (model prog w) A (assign (.Name y py) env v) (fun _ s₂ =>
          wpAny (model prog w) A (isTrue ct env (eval ct env)) (fun ok s₃ =>
            if ok = true then wpAny (model prog w) A (eval elt env) (fun z s₄ =>
              wpAny (model prog w) A (call (.builtin "list.append") [acc, z]) (fun _ s₅ => ∃ m, m < n ∧ I m s₅) (notedBy (model prog w) A env fun e s' => R (.error e) s') s₄) (notedBy (model prog w) A env fun e s' => R (.error e) s') s₃
            else ∃ m, m < n ∧ I m s₃) (notedBy (model prog w) A env fun e s' => R (.error e) s') s₂) (notedBy (model prog w) A env fun e s' => R (.error e) s') s₁) (notedBy (model prog w) A env fun e s' => R (.error e) s') s)
    (n : Nat) (h : I n s) : codeAny (model prog w) A (.compLoop (comp2 elt it1 it2 ct x y px py scope pos) 1 it acc env) R s := by
  refine codeAny_loop rfl I (fun n s hI => ?_) n h
  show wpAny _ A ((compTurn (comp2 elt it1 it2 ct x y px py scope pos) 1 it acc env).onRaise (fun x => do noteFrame x env; theTreesLotGoes x)) _ _ s
  refine wpAny_noted ?_
  rw [compTurn_in]
  refine wpAny_bind (wpAny_standAt (wpAny_bind (wpAny_mono (turn n s hI) (fun r s₁ h₁ => ?_) fun _ _ h' => h')))
  cases r with
  | none => exact wpAny_pure h₁
  | some v =>
    refine wpAny_bind (wpAny_of_eq (show letOwnedTupleGo (.Name y py) it v = pure () from rfl) ?_)
    refine wpAny_bind (wpAny_mono h₁ (fun _ s₂ h₂ => wpAny_bind (wpAny_tests_one (wpAny_mono h₂ (fun ok s₃ h₃ => ?_) fun _ _ h' => h'))) fun _ _ h' => h')
    cases ok with
    | false => exact wpAny_pure ⟨rfl, by simpa using h₃⟩
    | true =>
      simp only [if_true] at h₃
      exact wpAny_bind (wpAny_bind (wpAny_mono h₃ (fun x s₄ h₄ => wpAny_bind (wpAny_mono h₄ (fun _ s₅ h₅ => wpAny_pure (wpAny_pure ⟨rfl, h₅⟩)) fun _ _ h' => h')) fun _ _ h' => h'))

theorem start_in {elt it1 it2 ct : Expr} {x y : Str} {px py : Pos} {scope : Scope} {pos : Pos} {it acc : Value} {env : Env}
    (h0 : codeAny (model prog w) A (.compLoop (comp2 elt it1 it2 ct x y px py scope pos) 1 it acc env) R s)
    (h : wpAny (model prog w) A (pyIter it) (fun it' s' => codeAny (model prog w) A (.compLoop (comp2 elt it1 it2 ct x y px py scope pos) 1 it' acc env) R s')
      (notedBy (model prog w) A env fun x s' => R (.error x) s') s) :
    codeAny (model prog w) A (.compStart (comp2 elt it1 it2 ct x y px py scope pos) 1 it acc env) R s := by
  refine codeAny_of_tree ?_
  show wpAny _ _ ((compStart (comp2 elt it1 it2 ct x y px py scope pos) 1 it acc env).onRaise (fun x => do noteFrame x env; standAt theWindowsPlace)) _ _ s
  refine wpAny_notedAt ?_
  unfold compStart
  show wpAny _ _ (ask >>= _) _ _ s
  refine wpAny_bind (wpAny_askSetting (wpAny_ite ?_))
  split
  · first
      | exact wpAny_bind (wpAny_pure (wpAny_pure (And.intro rfl h0)))
      | exact wpAny_pure (And.intro rfl h0)
  · first
      | exact wpAny_bind (wpAny_rule (wpAny_bind (wpAny_standAt (wpAny_bind (wpAny_mono h (fun it' s' h' => wpAny_pure (And.intro rfl h')) fun _ _ x => x)))))
      | (refine wpAny_bind (wpAny_rule ?_); show wpAny _ _ (standAt it2.pos >>= _) _ _ s; exact wpAny_bind (wpAny_standAt (wpAny_bind (wpAny_mono h (fun it' s' h' => wpAny_pure (And.intro rfl h')) fun _ _ x => x))))

theorem loop_out {elt it1 it2 ct : Expr} {x y : Str} {px py : Pos} {scope : Scope} {pos : Pos} {it acc : Value} {env : Env} (hf : ∀ z, foldedSetIterable it2 env z = pure z) (I : Nat → Shared → Prop)
    (turn : ∀ n s, I n s → wpAny (model prog w) A (pyNext it) (fun r s₁ => match r with
      | none => R (.ok .next) s₁
      | some v => wpAny (model prog w) A (assign (.Name x px) env v) (fun _ s₂ =>
          wpAny (model prog w) A (eval it2 env) (fun z s₃ => wpAny (model prog w) A (pyIter z) (fun jt s₄ =>
            codeAny (model prog w) A (.compStart (comp2 elt it1 it2 ct x y px py scope pos) 1 jt acc env) (fun r s₅ => match r with | .ok _ => ∃ m, m < n ∧ I m s₅ | .error e => cameBackBy (model prog w) A env (notedBy (model prog w) A env fun e s' => R (.error e) s') e s₅) s₄)
            (notedBy (model prog w) A env fun e s' => R (.error e) s') s₃) (notedBy (model prog w) A env fun e s' => R (.error e) s') s₂) (notedBy (model prog w) A env fun e s' => R (.error e) s') s₁) (notedBy (model prog w) A env fun e s' => R (.error e) s') s)
    (n : Nat) (h : I n s) : codeAny (model prog w) A (.compLoop (comp2 elt it1 it2 ct x y px py scope pos) 0 it acc env) R s := by
  refine codeAny_loop rfl I (fun n s hI => ?_) n h
  show wpAny _ A ((compTurn (comp2 elt it1 it2 ct x y px py scope pos) 0 it acc env).onRaise (fun x => do noteFrame x env; theTreesLotGoes x)) _ _ s
  refine wpAny_noted ?_
  rw [compTurn_out]
  refine wpAny_bind (wpAny_standAt (wpAny_bind (wpAny_mono (turn n s hI) (fun r s₁ h₁ => ?_) fun _ _ h' => h')))
  cases r with
  | none => exact wpAny_pure h₁
  | some v =>
    refine wpAny_bind (wpAny_of_eq (show letOwnedTupleGo (.Name x px) it v = pure () from rfl) ?_)
    refine wpAny_bind (wpAny_mono h₁ (fun _ s₂ h₂ => wpAny_bind (wpAny_tests_nil ?_)) fun _ _ h' => h')
    simp only [if_true]
    refine wpAny_bind (wpAny_mono h₂ (fun z s₃ h₃ => wpAny_bind (wpAny_standAt (wpAny_bind (wpAny_of_eq (hf z) (wpAny_bind (wpAny_holding (wpAny_mono h₃ (fun jt s₄ h₄ => ?_) fun _ _ h' => h'))))))) fun _ _ h' => h')
    refine wpAny_bind (wpAny_runOwn (codeAny_mono (show codeAny (model prog w) (A.mark none) _ _ s₄ from h₄) fun r s₅ h₅ => ?_))
    cases r with
    | ok f => exact wpAny_pure ⟨rfl, h₅⟩
    | error e => exact h₅
end

section
variable {prog : Program} {w : World} {A : Around} {E : Value → Shared → Prop} {h₀ : Heap} {L : Addr} {m : Str → Option Value} {env : Env}
open LCg

theorem rangeIter_of {I : Addr} {a b : Int} {h h' : Heap} {o : Obj} (st : IsRangeIter h I a b 1) (e : h.get? I = some o) (e' : h'.get? I = some o) : IsRangeIter h' I a b 1 := by
  have st' : h.get? I = some _ := st
  show h'.get? I = some _
  rw [e', ← e]; exact st'

/-- the state of the turns: what the two loops hold on to -/
structure Two (h₀ : Heap) (L : Addr) (m : Str → Option Value) (C D : Addr) (ys : List Value) (nw : List (Addr × Obj)) (m' : Str → Option Value) (h : Heap) : Prop where
  fr : Fr h₀ L h m
  ns : h.Ns C m'
  nw : News h₀ L h ((D, lst ys) :: nw)

theorem inner_2 {ct elt it1 it2 : Expr} {x y : Str} {px py : Pos} {scope : Scope} {cl : List (Str × Addr)} {pos : Pos} {s₂ : Shared} {I2 C D : Addr} {n2 : Nat} {nw : List (Addr × Obj)} {J : Nat → List Value → Prop} {vx : Value} {R : Result → Shared → Prop} {h : Heap} {tk : Nat} {ys : List Value} {m' : Str → Option Value}
    (hh : A.handled = none) (hxy : x ≠ y) (hkind : scope.kind = .function) (hy : scope.names.lookup y = some .local)
    (hCL : C ≠ L) (hDL : D ≠ L) (hIL : I2 ≠ L) (hC₀ : h₀.get? C = none) (hD₀ : h₀.get? D = none) (hI₀ : h₀.get? I2 = none) (hCD : C ≠ D) (hIC : I2 ≠ C) (hID : I2 ≠ D) (off : Off3 I2 C D nw)
    (hst : IsRangeIter h I2 (0 + (0 : Nat) * 1) ((n2 : Int) - (0 : Nat)) 1) (st : Two h₀ L m C D ys nw m' h) (hmx : m' x = some vx) (hJ : J 0 ys) (hsz : ∀ j ys, J j ys → ys.length ≤ sizeLine)
    (turn : ∀ (j : Nat) t' ys oI2 oC m₂ h tk (E' : Value → Shared → Prop), j < n2 → J j ys → NsObj oC m₂ → m₂ x = some vx → m₂ y = some (.int (j : Int) t') → Fr h₀ L h m → News h₀ L h ((I2, oI2) :: (C, oC) :: (D, lst ys) :: nw) →
      wpAny (model prog w) A (isTrue ct (compEnvC scope cl C env) (eval ct (compEnvC scope cl C env))) (fun b s' => if b = true then wpAny (model prog w) A (eval elt (compEnvC scope cl C env)) (CompEnd h₀ L m { s₂ with heap := h, toks := tk } I2 oI2 C oC D (lst ys) (fun _ => True) (fun z nw' => nw' = nw ∧ J (j + 1) (ys ++ [z]))) E' s'
        else CompEnd h₀ L m { s₂ with heap := h, toks := tk } I2 oI2 C oC D (lst ys) (fun _ => True) (fun _ nw' => nw' = nw ∧ J (j + 1) ys) Value.none s') E' { s₂ with heap := h, toks := tk })
    (done : ∀ h tk ys m', Two h₀ L m C D ys nw m' h → J n2 ys → R (.ok .next) { s₂ with heap := h, toks := tk }) :
    codeAny (model prog w) A (.compLoop (comp2 elt it1 it2 ct x y px py scope pos) 1 (.ref I2) (.ref D) (compEnvC scope cl C env)) R { s₂ with heap := h, toks := tk } := by
  have W := range_walks (prog := prog) (w := w) (I := I2) hh 0 n2
  have off3 := off.mem
  refine loop_in
    (fun k s' => ∃ h' tk j ys m', s' = { s₂ with heap := h', toks := tk } ∧ j ≤ n2 ∧ k = n2 + 1 - j ∧ IsRangeIter h' I2 (0 + (j : Nat) * 1) ((n2 : Int) - (j : Nat)) 1 ∧ Two h₀ L m C D ys nw m' h' ∧ m' x = some vx ∧ J j ys) ?_ (n2 + 1)
    ⟨h, tk, 0, ys, m', rfl, Nat.zero_le _, rfl, hst, st, hmx, hJ⟩
  rintro k s' ⟨h', tk, j, ys, m', rfl, hj, rfl, hst', ⟨F', hn', N'⟩, hmx', hJ'⟩
  by_cases hlt : j < n2
  · refine W.item j _ _ _ hlt hst' fun v h₂ tk₂ hPv hst₂ hk₂ => ?_
    obtain ⟨t', rfl⟩ := hPv
    refine wpAny_assign_Name (wpAny_storeName_local (lookup_relabel_local hy) (hn'.at' fun o e => hk₂ _ o (by simpa using Ne.symm hIC) e) (fun h₃ hn₃ hs₃ => ?_) (by simp [compEnvC, relabel, hkind]))
    have hst₃ := W.frame _ _ _ hst₂ fun b hb o e => hs₃.extBut b o (fun q => hIC (by have q1 : b = C := q; rw [← q1]; exact (List.mem_singleton.mp hb).symm)) e
    have heI : h₃.get? I2 = some _ := hst₃
    obtain ⟨oC, heC, hoC⟩ := ns_obj hn₃
    have F₃ : Fr h₀ L h₃ m := (fr_but F' hk₂ (Ne.symm hIL) hI₀).change hs₃ hCL hC₀
    have N₂ : News h₀ L h₂ ((D, lst ys) :: nw) := news_but N' hk₂ fun p hp => by
      rcases List.mem_cons.mp hp with rfl | hp
      · exact Ne.symm hID
      · exact (off3 p hp).1
    have N₃ : News h₀ L h₃ ((I2, _) :: (C, oC) :: (D, lst ys) :: nw) := fun p hp => by
      rcases List.mem_cons.mp hp with rfl | hp
      · exact ⟨heI, hIL, hI₀⟩
      · rcases List.mem_cons.mp hp with rfl | hp
        · exact ⟨heC, hCL, hC₀⟩
        · have z := N₂ p hp
          refine ⟨hs₃.extBut _ _ ?_ z.1, z.2⟩
          rcases List.mem_cons.mp hp with rfl | hp
          · exact Ne.symm hCD
          · exact (off3 p hp).2.1
    have e0 : (0 : Int) + (j : Int) = (j : Int) := Int.zero_add _
    refine wpAny_mono (turn j t' ys _ oC _ h₃ _ _ hlt hJ' hoC (by simp [hxy, hmx']) (by simp [e0]) F₃ N₃) (fun ok s₄ h₄ => ?_) fun _ _ e => e
    cases ok with
    | true =>
      simp only [if_true] at h₄ ⊢
      refine wpAny_mono h₄ (fun z s₅ h₅ => ?_) fun _ _ e => e
      obtain ⟨g₄, tk₄, nw', rfl, F₄, N₄, off₄, _, rfl, hJ₄⟩ := h₅
      have zI := (N₄ _ List.mem_cons_self).1
      have zC := (N₄ (C, oC) (List.mem_cons_of_mem _ List.mem_cons_self)).1
      have zD := (N₄ (D, lst ys) (List.mem_cons_of_mem _ (List.mem_cons_of_mem _ List.mem_cons_self))).1
      have N₄' : News h₀ L g₄ nw' := fun p hp => N₄ p (List.mem_cons_of_mem _ (List.mem_cons_of_mem _ (List.mem_cons_of_mem _ hp)))
      have hst₄ := rangeIter_of hst₃ heI zI
      refine append_at (hsz := by show ys.toArray.size ≤ sizeLine; rw [List.size_toArray]; exact hsz _ _ hJ') zD fun h₅ hs₅ hD₅ => ?_
      refine ⟨n2 + 1 - (j + 1), by omega, h₅, tk₄, j + 1, ys ++ [z], _, rfl, hlt, rfl, W.frame _ _ _ hst₄ fun b hb o e => hs₅.extBut b o (fun q => hID (by rw [← q]; exact (List.mem_singleton.mp hb).symm)) e, ⟨F₄.change hs₅ hDL hD₀, (hoC.ns zC).sameBut hs₅ hCD, fun p hp => ?_⟩, by simp [hxy, hmx'], hJ₄⟩
      rcases List.mem_cons.mp hp with rfl | hp
      · exact ⟨hD₅.trans (congrArg some (lst_snoc ys z)), hDL, hD₀⟩
      · exact ⟨hs₅.extBut _ _ (off3 p hp).2.2 (N₄' p hp).1, (N₄' p hp).2⟩
    | false =>
      simp only [Bool.false_eq_true, if_false] at h₄ ⊢
      obtain ⟨g₅, tk₄, nw', rfl, F₄, N₄, off₄, _, rfl, hJ₄⟩ := h₄
      have zI := (N₄ _ List.mem_cons_self).1
      have zC := (N₄ (C, oC) (List.mem_cons_of_mem _ List.mem_cons_self)).1
      have hst₄ := rangeIter_of hst₃ heI zI
      exact ⟨n2 + 1 - (j + 1), by omega, g₅, tk₄, j + 1, ys, _, rfl, hlt, rfl, hst₄, ⟨F₄, hoC.ns zC, fun p hp => N₄ p (List.mem_cons_of_mem _ (List.mem_cons_of_mem _ hp))⟩, by simp [hxy, hmx'], hJ₄⟩
  · obtain rfl : j = n2 := Nat.le_antisymm hj (Nat.not_lt.mp hlt)
    refine W.done _ _ _ hst' fun h₂ tk₂ hk₂ => ?_
    refine done h₂ tk₂ ys m' ⟨fr_but F' hk₂ (Ne.symm hIL) hI₀, hn'.at' fun o e => hk₂ _ o (by simpa using Ne.symm hIC) e, news_but N' hk₂ fun p hp => ?_⟩ hJ'
    rcases List.mem_cons.mp hp with rfl | hp
    · exact Ne.symm hID
    · exact (off3 p hp).1
end

section
variable {prog : Program} {w : World} {A : Around} {E : Value → Shared → Prop} {h₀ : Heap} {L : Addr} {m : Str → Option Value} {env : Env}
open LCg

/-- what the second range's evaluation gives -/
def RangeAt (h₀ : Heap) (L : Addr) (m : Str → Option Value) (n2 : Nat) (s : Shared) (nw : List (Addr × Obj)) (xv : Value) (s' : Shared) : Prop :=
  ∃ r t u v h' tk', xv = .ref r ∧ s' = { s with heap := h', toks := tk' } ∧ Fr h₀ L h' m ∧ News h₀ L h' nw ∧ IsRange h' r 0 (n2 : Int) 1 t u v

theorem block_2 {ct elt it1 it2 : Expr} {x y : Str} {px py : Pos} {scope : Scope} {cl : List (Str × Addr)} {pos : Pos} {s₂ : Shared} {I : Addr} {n n2 : Nat} {news : List (Addr × Obj)} {J : Nat → Nat → List Value → Prop} {RR : Value → Addr → Result → Shared → Prop}
    (hh : A.handled = none) (hxy : x ≠ y) (hf : ∀ z, foldedSetIterable it2 (compEnvC scope cl 0 env) z = pure z) (hf' : ∀ C z, foldedSetIterable it2 (compEnvC scope cl C env) z = foldedSetIterable it2 (compEnvC scope cl 0 env) z)
    (hcell : ∀ z ∈ scope.names, z.2 ≠ .cell) (hkind : scope.kind = .function) (hx : scope.names.lookup x = some .local) (hy : scope.names.lookup y = some .local)
    (hst : IsRangeIter s₂.heap I (0 + (0 : Nat) * 1) ((n : Int) - (0 : Nat)) 1) (hIlt : I < s₂.heap.objs.size) (hn2 : n2 ≤ 1000)
    (F : Fr h₀ L s₂.heap m) (N : News h₀ L s₂.heap news) (hIL : L ≠ I) (hI₀ : h₀.get? I = none) (off : ∀ p ∈ news, p.1 ≠ I)
    (hJ0 : J 0 0 []) (hsz : ∀ i j ys, J i j ys → ys.length ≤ sizeLine) (hnext : ∀ i ys, i < n → J i n2 ys → J (i + 1) 0 ys)
    (second : ∀ (i : Nat) t ys oI C oC D m₂ h tk (E' : Value → Shared → Prop), i < n → NsObj oC m₂ → m₂ x = some (.int (i : Int) t) → Fr h₀ L h m → News h₀ L h ((C, oC) :: (D, lst ys) :: (I, oI) :: news) →
      wpAny (model prog w) A (eval it2 (compEnvC scope cl C env)) (RangeAt h₀ L m n2 { s₂ with heap := h, toks := tk } ((C, oC) :: (D, lst ys) :: (I, oI) :: news)) E' { s₂ with heap := h, toks := tk })
    (turn : ∀ (i j : Nat) t t' ys I2 oI2 oI C oC D m₂ h tk (E' : Value → Shared → Prop), i < n → j < n2 → J i j ys → NsObj oC m₂ → m₂ x = some (.int (i : Int) t) → m₂ y = some (.int (j : Int) t') → Fr h₀ L h m → News h₀ L h ((I2, oI2) :: (C, oC) :: (D, lst ys) :: (I, oI) :: news) → Off3 I2 C D ((I, oI) :: news) → ((@Ne Nat I2 C) ∧ (@Ne Nat I2 D) ∧ (@Ne Nat C D)) →
      wpAny (model prog w) A (isTrue ct (compEnvC scope cl C env) (eval ct (compEnvC scope cl C env))) (fun b s' => if b = true then wpAny (model prog w) A (eval elt (compEnvC scope cl C env)) (CompEnd h₀ L m { s₂ with heap := h, toks := tk } I2 oI2 C oC D (lst ys) (fun _ => True) (fun z nw' => nw' = (I, oI) :: news ∧ J i (j + 1) (ys ++ [z]))) E' s'
        else CompEnd h₀ L m { s₂ with heap := h, toks := tk } I2 oI2 C oC D (lst ys) (fun _ => True) (fun _ nw' => nw' = (I, oI) :: news ∧ J i (j + 1) ys) Value.none s') E' { s₂ with heap := h, toks := tk })
    (hRR : ∀ D C h tk m' ys, Fr h₀ L h m → News h₀ L h ((D, lst ys) :: news) → Off1 D news → h.Ns C m' → h₀.get? C = none → h₀.get? D = none → C ≠ L → D ≠ L → C ≠ D → (∀ p ∈ news, p.1 ≠ C) → J n 0 ys → RR (.ref D) C (.ok .next) { s₂ with heap := h, toks := tk }) :
    wpAny (model prog w) A (newList []) (fun acc s₃ => wpAny (model prog w) A (newFunctionEnv scope env.globals cl [] env.qual none .none (some env)) (fun cenv s₄ =>
      codeAny (model prog w) A (.compStart (comp2 elt it1 it2 ct x y px py scope pos) 0 (.ref I) acc { cenv with scope := relabel scope env }) (RR acc cenv.locals) s₄) E s₃) E s₂ := by
  have W := range_walks (prog := prog) (w := w) (I := I) hh 0 n
  refine wpAny_newObj_type (wpAny_newFunctionEnv hcell (by intro z hz; simp at hz) (fun h₁ hns₁ hsb₁ => ?_) hkind)
  dsimp only at hns₁ hsb₁ ⊢
  generalize hH2 : s₂.heap.push { cls := .type "list", dict := none, data := .seq ([] : List Value).toArray } = H2 at hns₁ hsb₁ ⊢
  have hC : H2.objs.size = s₂.heap.objs.size + 1 := by rw [← hH2, Heap.size_push]
  have hDC : s₂.heap.objs.size ≠ H2.objs.size := by rw [hC]; exact Nat.ne_of_lt (Nat.lt_succ_self _)
  have below : ∀ b, b < s₂.heap.objs.size → b ≠ H2.objs.size ∧ b ≠ s₂.heap.objs.size := fun b hb => ⟨by rw [hC]; exact Nat.ne_of_lt (Nat.lt_succ_of_lt hb), Nat.ne_of_lt hb⟩
  have old : ∀ b o, s₂.heap.get? b = some o → h₁.get? b = some o := fun b o e => hsb₁.extBut b o (below b (Heap.lt_size e)).1 (Heap.get?_push_of_some _ (hH2 ▸ Heap.get?_push_of_some _ e))
  have hacc : h₁.get? s₂.heap.objs.size = some (lst []) := hsb₁.extBut _ _ hDC (Heap.get?_push_of_some _ (hH2 ▸ Heap.get?_push_size _ rfl))
  have hst₁ := W.frame 0 _ _ hst fun b _ o e => old b o e
  have fresh : ∀ a, s₂.heap.objs.size ≤ a → s₂.heap.get? a = none := fun a ha => by
    cases e : s₂.heap.get? a with
    | none => rfl
    | some o' => exact absurd (Heap.lt_size e) (Nat.not_lt.mpr ha)
  have fresh₀ : ∀ a, s₂.heap.objs.size ≤ a → h₀.get? a = none := fun a ha => by
    cases e : h₀.get? a with
    | none => rfl
    | some o' => have z := F.keep a o' e; rw [fresh a ha] at z; cases z
  have hD₀ : h₀.get? s₂.heap.objs.size = none := fresh₀ _ (Nat.le_refl _)
  have hC₀ : h₀.get? H2.objs.size = none := fresh₀ _ (by rw [hC]; exact Nat.le_succ _)
  have hLlt : L < s₂.heap.objs.size := F.ns.lt
  have hDL : s₂.heap.objs.size ≠ L := Ne.symm (below L hLlt).2
  have hCL : H2.objs.size ≠ L := Ne.symm (below L hLlt).1
  have hCI : I ≠ H2.objs.size := (below I hIlt).1
  have hDI : I ≠ s₂.heap.objs.size := (below I hIlt).2
  have off3 : ∀ p ∈ news, p.1 ≠ I ∧ p.1 ≠ H2.objs.size ∧ p.1 ≠ s₂.heap.objs.size := fun p hp => ⟨off p hp, (below _ (Heap.lt_size (N p hp).1)).1, (below _ (Heap.lt_size (N p hp).1)).2⟩
  have hff : ∀ z, foldedSetIterable it2 (compEnvC scope cl H2.objs.size env) z = pure z := fun z => (hf' _ z).trans (hf z)
  have loop : ∀ s₃ : Shared, s₃ = { s₂ with heap := h₁, toks := s₂.toks + ([] : List (Str × Value)).length } →
      codeAny (model prog w) A (.compLoop (comp2 elt it1 it2 ct x y px py scope pos) 0 (.ref I) (.ref s₂.heap.objs.size) (compEnvC scope cl H2.objs.size env))
        (RR (.ref s₂.heap.objs.size) H2.objs.size) s₃ := by
    rintro s₃ rfl
    refine loop_out hff
      (fun k s' => ∃ h' tk i ys m', s' = { s₂ with heap := h', toks := tk } ∧ i ≤ n ∧ k = n + 1 - i ∧ IsRangeIter h' I (0 + (i : Nat) * 1) ((n : Int) - (i : Nat)) 1 ∧ Two h₀ L m H2.objs.size s₂.heap.objs.size ys news m' h' ∧ J i 0 ys) ?_ (n + 1)
      ⟨h₁, _, 0, [], _, rfl, Nat.zero_le _, rfl, hst₁, ⟨F.keeps old, hns₁, fun p hp => ?_⟩, hJ0⟩
    · rintro k s' ⟨h', tk, i, ys, m', rfl, hi, rfl, hst', ⟨F', hn', N'⟩, hJ'⟩
      by_cases hlt : i < n
      · refine W.item i _ _ _ hlt hst' fun v h₂ tk₂ hPv hst₂ hk₂ => ?_
        obtain ⟨t', rfl⟩ := hPv
        refine wpAny_assign_Name (wpAny_storeName_local (lookup_relabel_local hx) (hn'.at' fun o e => hk₂ _ o (by simpa using Ne.symm hCI) e) (fun h₃ hn₃ hs₃ => ?_) (by simp [compEnvC, relabel, hkind]))
        have hst₃ := W.frame _ _ _ hst₂ fun b hb o e => hs₃.extBut b o (fun q => hCI (by have q1 : b = H2.objs.size := q; rw [← q1]; exact (List.mem_singleton.mp hb).symm)) e
        have heI : h₃.get? I = some _ := hst₃
        obtain ⟨oC, heC, hoC⟩ := ns_obj hn₃
        have F₃ : Fr h₀ L h₃ m := (fr_but F' hk₂ hIL hI₀).change hs₃ hCL hC₀
        have N₂ : News h₀ L h₂ ((s₂.heap.objs.size, lst ys) :: news) := news_but N' hk₂ fun p hp => by
          rcases List.mem_cons.mp hp with rfl | hp
          · exact Ne.symm hDI
          · exact (off3 p hp).1
        have N₃ : News h₀ L h₃ ((H2.objs.size, oC) :: (s₂.heap.objs.size, lst ys) :: (I, _) :: news) := fun p hp => by
          rcases List.mem_cons.mp hp with rfl | hp
          · exact ⟨heC, hCL, hC₀⟩
          · rcases List.mem_cons.mp hp with rfl | hp
            · have z := N₂ _ List.mem_cons_self
              exact ⟨hs₃.extBut _ _ hDC z.1, z.2⟩
            · rcases List.mem_cons.mp hp with rfl | hp
              · exact ⟨heI, Ne.symm hIL, hI₀⟩
              · have z := N₂ p (List.mem_cons_of_mem _ hp)
                exact ⟨hs₃.extBut _ _ (off3 p hp).2.1 z.1, z.2⟩
        have e0 : (0 : Int) + (i : Int) = (i : Int) := Int.zero_add _
        refine wpAny_mono (second i t' ys _ H2.objs.size oC s₂.heap.objs.size _ h₃ _ _ hlt hoC (by simp [e0]) F₃ N₃) (fun xv s₄ h₄ => ?_) fun _ _ e => e
        obtain ⟨r, tr, ur, vr, g₄, tk₄, rfl, rfl, F₄, N₄, hr⟩ := h₄
        refine wpAny_pyIter_range hr (small_one (by decide) (by decide) (by omega) (by omega)) ?_
        generalize hI2 : g₄.objs.size = I2
        have hlt4 : ∀ p ∈ ((H2.objs.size, oC) :: (s₂.heap.objs.size, lst ys) :: (I, _) :: news), p.1 ≠ I2 := fun p hp => by rw [← hI2]; exact Nat.ne_of_lt (Heap.lt_size (N₄ p hp).1)
        have up : ∀ b o, g₄.get? b = some o → (g₄.push { cls := .type "range_iterator", data := .fields #[rawInt 0, rawInt (Builtin.Range.rangeSize 0 (n2 : Int) 1), rawInt 1] }).get? b = some o := fun b o e => Heap.get?_push_of_some _ e
        have hsize : Builtin.Range.rangeSize 0 (n2 : Int) 1 = (n2 : Int) := by rw [rangeSize_nat]; omega
        have hI2₀ : h₀.get? I2 = none := hI2 ▸ next_is_new F₄
        have hI2L : I2 ≠ L := by rw [← hI2]; exact Ne.symm (Nat.ne_of_lt F₄.ns.lt)
        have zC := N₄ (H2.objs.size, oC) List.mem_cons_self
        have zD := N₄ (s₂.heap.objs.size, lst ys) (List.mem_cons_of_mem _ List.mem_cons_self)
        have N₄' : News h₀ L g₄ ((s₂.heap.objs.size, lst ys) :: (I, _) :: news) := fun p hp => N₄ p (List.mem_cons_of_mem _ hp)
        have run : ∀ s₆ : Shared, s₆ = { s₂ with heap := g₄.push { cls := .type "range_iterator", data := .fields #[rawInt 0, rawInt (Builtin.Range.rangeSize 0 (n2 : Int) 1), rawInt 1] }, toks := tk₄ } →
            codeAny (model prog w) A (.compLoop (comp2 elt it1 it2 ct x y px py scope pos) 1 (.ref I2) (.ref s₂.heap.objs.size) (compEnvC scope cl H2.objs.size env)) (fun r s₅ => match r with
              | .ok _ => ∃ m_1, m_1 < n + 1 - i ∧ ∃ h' tk i ys m', s₅ = { s₂ with heap := h', toks := tk } ∧ i ≤ n ∧ m_1 = n + 1 - i ∧ IsRangeIter h' I (0 + (i : Nat) * 1) ((n : Int) - (i : Nat)) 1 ∧ Two h₀ L m H2.objs.size s₂.heap.objs.size ys news m' h' ∧ J i 0 ys
              | .error e => cameBackBy (model prog w) A (compEnvC scope cl H2.objs.size env) (notedBy (model prog w) A (compEnvC scope cl H2.objs.size env) fun e s' => RR (.ref s₂.heap.objs.size) H2.objs.size (.error e) s') e s₅) s₆ := by
          rintro s₆ rfl
          refine inner_2 (J := J i) (nw := (I, _) :: news) (n2 := n2) (vx := .int (0 + (i : Int)) t') hh hxy hkind hy hCL hDL hI2L hC₀ hD₀ hI2₀ (Ne.symm hDC) (Ne.symm (hlt4 _ List.mem_cons_self)) (Ne.symm (hlt4 _ (List.mem_cons_of_mem _ List.mem_cons_self))) (Off3.of fun p hp => ⟨hlt4 p (List.mem_cons_of_mem _ (List.mem_cons_of_mem _ hp)), ?_, ?_⟩)
            (by rw [← hI2, hsize]; exact Heap.get?_push_size _ rfl) ⟨F₄.push _, (hoC.ns zC.1).at' fun o e => up _ o e, fun p hp => ⟨up _ _ (N₄' p hp).1, (N₄' p hp).2⟩⟩ (by simp) hJ' (fun j ys h => hsz i j ys h) ?_ ?_
          · rcases List.mem_cons.mp hp with rfl | hp
            · exact hCI
            · exact (off3 p hp).2.1
          · rcases List.mem_cons.mp hp with rfl | hp
            · exact hDI
            · exact (off3 p hp).2.2
          · intro j t'' ys' oI2 oC' m₂ h9 tk9 E' hj hJ9 hC9 hx9 hy9 F9 N9
            rw [e0] at hx9
            exact turn i j t' t'' ys' I2 oI2 _ H2.objs.size oC' s₂.heap.objs.size m₂ h9 tk9 E' hlt hj hJ9 hC9 hx9 hy9 F9 N9 (Off3.of fun p hp => ⟨hlt4 p (List.mem_cons_of_mem _ (List.mem_cons_of_mem _ hp)), by
              rcases List.mem_cons.mp hp with rfl | hp
              · exact hCI
              · exact (off3 p hp).2.1, by
              rcases List.mem_cons.mp hp with rfl | hp
              · exact hDI
              · exact (off3 p hp).2.2⟩) ⟨Ne.symm (hlt4 _ List.mem_cons_self), Ne.symm (hlt4 _ (List.mem_cons_of_mem _ List.mem_cons_self)), Ne.symm hDC⟩
          · intro h9 tk9 ys' m9 st9 hJ9
            refine ⟨n + 1 - (i + 1), by omega, h9, tk9, i + 1, ys', m9, rfl, hlt, rfl, ?_, ⟨st9.fr, st9.ns, fun p hp => st9.nw p ?_⟩, hnext i ys' hlt hJ9⟩
            · exact rangeIter_of hst₃ heI (st9.nw (I, _) (List.mem_cons_of_mem _ List.mem_cons_self)).1
            · rcases List.mem_cons.mp hp with rfl | hp
              · exact List.mem_cons_self
              · exact List.mem_cons_of_mem _ (List.mem_cons_of_mem _ hp)
        refine start_in (run _ rfl) ?_
        exact (range_walks (prog := prog) (w := w) (I := I2) hh 0 n2).self 0 _ _ _ (by rw [← hI2, hsize]; exact Heap.get?_push_size _ rfl) (run _ rfl)
      · obtain rfl : i = n := Nat.le_antisymm hi (Nat.not_lt.mp hlt)
        refine W.done _ _ _ hst' fun h₂ tk₂ hk₂ => ?_
        refine hRR _ _ h₂ tk₂ m' ys (fr_but F' hk₂ hIL hI₀) (news_but N' hk₂ fun p hp => ?_) (Off3.one (I := I) (C := H2.objs.size) (Off3.of off3)) (hn'.at' fun o e => hk₂ _ o (by simpa using Ne.symm hCI) e) hC₀ hD₀ hCL hDL (Ne.symm hDC) (fun p hp => (off3 p hp).2.1) hJ'
        rcases List.mem_cons.mp hp with rfl | hp
        · exact Ne.symm hDI
        · exact (off3 p hp).1
    · rcases List.mem_cons.mp hp with rfl | hp
      · exact ⟨hacc, hDL, hD₀⟩
      · exact ⟨old _ _ (N p hp).1, (N p hp).2⟩
  exact codeAny_compStart_list (loop _ rfl) (W.self 0 _ _ _ hst₁ (loop _ rfl))
end

section
variable {prog : Program} {w : World} {A : Around} {E : Value → Shared → Prop} {s : Shared} {h₀ : Heap} {L : Addr} {m : Str → Option Value} {env : Env}
open LCg

/-- what is to be shown of the turns of two ranges within a comprehension -/
def Turns2 (prog : Program) (w : World) (A : Around) (h₀ : Heap) (L : Addr) (m : Str → Option Value) (env : Env) (elt it2 ct : Expr) (x y : Str) (scope : Scope) (cl : List (Str × Addr)) (n n2 : Nat) (news : List (Addr × Obj)) (J : Nat → Nat → List Value → Prop) (s₂ : Shared) : Prop :=
  (∀ (i : Nat) t ys I oI C oC D m₂ h tk (E' : Value → Shared → Prop), i < n → NsObj oC m₂ → m₂ x = some (.int (i : Int) t) → Fr h₀ L h m → News h₀ L h ((C, oC) :: (D, lst ys) :: (I, oI) :: news) →
      wpAny (model prog w) A (eval it2 (compEnvC scope cl C env)) (RangeAt h₀ L m n2 { s₂ with heap := h, toks := tk } ((C, oC) :: (D, lst ys) :: (I, oI) :: news)) E' { s₂ with heap := h, toks := tk }) ∧
  (∀ (i j : Nat) t t' ys I2 oI2 I oI C oC D m₂ h tk (E' : Value → Shared → Prop), i < n → j < n2 → J i j ys → NsObj oC m₂ → m₂ x = some (.int (i : Int) t) → m₂ y = some (.int (j : Int) t') → Fr h₀ L h m → News h₀ L h ((I2, oI2) :: (C, oC) :: (D, lst ys) :: (I, oI) :: news) → Off3 I2 C D ((I, oI) :: news) → ((@Ne Nat I2 C) ∧ (@Ne Nat I2 D) ∧ (@Ne Nat C D)) →
      wpAny (model prog w) A (isTrue ct (compEnvC scope cl C env) (eval ct (compEnvC scope cl C env))) (fun b s' => if b = true then wpAny (model prog w) A (eval elt (compEnvC scope cl C env)) (CompEnd h₀ L m { s₂ with heap := h, toks := tk } I2 oI2 C oC D (lst ys) (fun _ => True) (fun z nw' => nw' = (I, oI) :: news ∧ J i (j + 1) (ys ++ [z]))) E' s'
        else CompEnd h₀ L m { s₂ with heap := h, toks := tk } I2 oI2 C oC D (lst ys) (fun _ => True) (fun _ nw' => nw' = (I, oI) :: news ∧ J i (j + 1) ys) Value.none s') E' { s₂ with heap := h, toks := tk })

def Src2 (prog : Program) (w : World) (A : Around) (h₀ : Heap) (L : Addr) (m : Str → Option Value) (env : Env) (elt it2 ct : Expr) (x y : Str) (scope : Scope) (cl : List (Str × Addr)) (Q : Value → Shared → Prop) (xv : Value) (s₁ : Shared) : Prop :=
  ∃ r t u v n n2 news J, xv = .ref r ∧ A.handled = none ∧ Fr h₀ L s₁.heap m ∧ News h₀ L s₁.heap news ∧ IsRange s₁.heap r 0 ((n : Nat) : Int) 1 t u v ∧ n ≤ 1000 ∧ n2 ≤ 1000 ∧ J 0 0 [] ∧ (∀ i j ys, J i j ys → ys.length ≤ sizeLine) ∧ (∀ i ys, i < n → J i n2 ys → J (i + 1) 0 ys) ∧
    ∀ s₂ : Shared, (∃ h, s₂ = { s₁ with heap := h }) → Turns2 prog w A h₀ L m env elt it2 ct x y scope cl n n2 news J s₂ ∧ ∀ ys, J n 0 ys → FinE h₀ L m s₂ Q ys news

theorem ListComp_2 {ct elt it1 it2 : Expr} {x y : Str} {px py : Pos} {scope : Scope} {cl : List (Str × Addr)} {pos : Pos} {Q : Value → Shared → Prop} (_F₀ : Fr h₀ L s.heap m)
    (hclos : closureFor scope env = pure cl) (hcell : ∀ z ∈ scope.names, z.2 ≠ .cell) (hkind : scope.kind = .function)
    (hnames : ∀ z ∈ scope.names, z.2 = .local → scope.names.lookup z.1 = some .local) (hx : scope.names.lookup x = some .local) (hy : scope.names.lookup y = some .local) (hxy : x ≠ y)
    (hf : ∀ z, foldedSetIterable it2 (compEnvC scope cl 0 env) z = pure z) (hf' : ∀ C z, foldedSetIterable it2 (compEnvC scope cl C env) z = foldedSetIterable it2 (compEnvC scope cl 0 env) z)
    (h : wpAny (model prog w) A (eval it1 env) (Src2 prog w A h₀ L m env elt it2 ct x y scope cl Q) E s)
    (hs : ∀ z, foldedSetIterable it1 env z = pure z := by intro _; rfl) :
    wpAny (model prog w) A (eval (comp2 elt it1 it2 ct x y px py scope pos) env) Q E s := by
  rw [eval_ListComp]
  refine wpAny_comprehension_free (use := none) rfl hs hclos hkind hnames (wpAny_mono h (fun xv s₁ h₁ => ?_) fun _ _ e => e)
  obtain ⟨r, t, u, v, n, n2, news, J, rfl, hh, F, N, hr, hn, hn2, hJ0, hsz, hnext, rest⟩ := h₁
  refine wpAny_pyIter_range hr (small_one (by decide) (by decide) (by omega) (by omega)) ?_
  have hsize : Builtin.Range.rangeSize 0 (n : Int) 1 = (n : Int) := by rw [rangeSize_nat]; omega
  obtain ⟨⟨h2, ht⟩, fin⟩ := rest _ ⟨_, rfl⟩
  refine block_2 (J := J) hh hxy hf hf' hcell hkind hx hy (by rw [hsize]; exact Heap.get?_push_size _ rfl) ?_ hn2
    (F.keeps fun _ _ e => Heap.get?_push_of_some _ e) (N.grown fun _ _ e => Heap.get?_push_of_some _ e) (Nat.ne_of_lt F.ns.lt) (next_is_new F) (fun p hp => Nat.ne_of_lt (Heap.lt_size (N p hp).1)) hJ0 hsz hnext ?_ ?_ ?_
  · show s₁.heap.objs.size < (s₁.heap.push _).objs.size
    rw [Heap.size_push]; exact Nat.lt_succ_self _
  · exact fun i t ys oI C oC D m₂ h tk E' a b c d e => h2 i t ys _ oI C oC D m₂ h tk E' a b c d e
  · exact fun i j t t' ys I2 oI2 oI C oC D m₂ h tk E' a b c d e f g k l o => ht i j t t' ys I2 oI2 _ oI C oC D m₂ h tk E' a b c d e f g k l o
  · intro D C h' tk m' ys F' N' o1 hn' hC₀ hD₀ hCL hDL hCD offC hJ
    refine ⟨m', hn', fun h'' hs'' => fin ys hJ D h'' tk (F'.change hs'' hCL hC₀) (fun p hp => ?_) o1⟩
    refine ⟨hs''.extBut _ _ ?_ (N' p hp).1, (N' p hp).2⟩
    rcases List.mem_cons.mp hp with rfl | hp
    · exact Ne.symm hCD
    · exact offC p hp
end
end
section
section
variable {prog : Program} {w : World} {A : Around} {E : Value → Shared → Prop} {R : Result → Shared → Prop} {s : Shared}

noncomputable abbrev comp2u (elt it1 it2 : Expr) (x y : Str) (px py : Pos) (scope : Scope) (pos : Pos) : Expr := .ListComp elt [⟨.Name x px, it1, [], 0⟩, ⟨.Name y py, it2, [], 0⟩] scope pos

theorem compTurn_inu (elt it1 it2 : Expr) (x y : Str) (px py : Pos) (scope : Scope) (pos : Pos) (it acc : Value) (env : Env) :
    compTurn (comp2u elt it1 it2 x y px py scope pos) 1 it acc env = (do
      standAt it2.pos
      match ← pyNext it with
      | none => pure (.done .next)
      | some v =>
        letOwnedTupleGo (.Name y py) it v
        assign (.Name y py) env v
        let mut ok := true
        for c in ([] : List Expr) do
          if ok then ok ← isTrue c env (eval c env)
        if ok then
          (do let _ ← call (.builtin "list.append") [acc, ← eval elt env])
        again (.compLoop (comp2u elt it1 it2 x y px py scope pos) 1 it acc env)) := by rfl

theorem compTurn_outu (elt it1 it2 : Expr) (x y : Str) (px py : Pos) (scope : Scope) (pos : Pos) (it acc : Value) (env : Env) :
    compTurn (comp2u elt it1 it2 x y px py scope pos) 0 it acc env = (do
      standAt it1.pos
      match ← pyNext it with
      | none => pure (.done .next)
      | some v =>
        letOwnedTupleGo (.Name x px) it v
        assign (.Name x px) env v
        let mut ok := true
        for c in ([] : List Expr) do
          if ok then ok ← isTrue c env (eval c env)
        if ok then
          let z ← eval it2 env
          standAt it2.pos
          let z ← foldedSetIterable it2 env z
          let jt ← holding [z] (pyIter z)
          let _ ← runOwn (.compStart (comp2u elt it1 it2 x y px py scope pos) 1 jt acc env) env
          again (.compLoop (comp2u elt it1 it2 x y px py scope pos) 0 it acc env)
        else again (.compLoop (comp2u elt it1 it2 x y px py scope pos) 0 it acc env)) := by rfl

theorem loop_inu {elt it1 it2 : Expr} {x y : Str} {px py : Pos} {scope : Scope} {pos : Pos} {it acc : Value} {env : Env} (I : Nat → Shared → Prop)
    (turn : ∀ n s, I n s → wpAny (model prog w) A (pyNext it) (fun r s₁ => match r with
      | none => R (.ok .next) s₁
      | some v => wpAny (model prog w) A (assign (.Name y py) env v) (fun _ s₂ =>
          wpAny (model prog w) A (eval elt env) (fun z s₄ =>
              wpAny (model prog w) A (call (.builtin "list.append") [acc, z]) (fun _ s₅ => ∃ m, m < n ∧ I m s₅) (notedBy (model prog w) A env fun e s' => R (.error e) s') s₄) (notedBy (model prog w) A env fun e s' => R (.error e) s') s₂) (notedBy (model prog w) A env fun e s' => R (.error e) s') s₁) (notedBy (model prog w) A env fun e s' => R (.error e) s') s)
    (n : Nat) (h : I n s) : codeAny (model prog w) A (.compLoop (comp2u elt it1 it2 x y px py scope pos) 1 it acc env) R s := by
  refine codeAny_loop rfl I (fun n s hI => ?_) n h
  show wpAny _ A ((compTurn (comp2u elt it1 it2 x y px py scope pos) 1 it acc env).onRaise (fun x => do noteFrame x env; theTreesLotGoes x)) _ _ s
  refine wpAny_noted ?_
  rw [compTurn_inu]
  refine wpAny_bind (wpAny_standAt (wpAny_bind (wpAny_mono (turn n s hI) (fun r s₁ h₁ => ?_) fun _ _ h' => h')))
  cases r with
  | none => exact wpAny_pure h₁
  | some v =>
    refine wpAny_bind (wpAny_of_eq (show letOwnedTupleGo (.Name y py) it v = pure () from rfl) ?_)
    refine wpAny_bind (wpAny_mono h₁ (fun _ s₂ h₂ => wpAny_bind (wpAny_tests_nil ?_)) fun _ _ h' => h')
    simp only [if_true]
    exact wpAny_bind (wpAny_bind (wpAny_mono h₂ (fun x s₄ h₄ => wpAny_bind (wpAny_mono h₄ (fun _ s₅ h₅ => wpAny_pure (wpAny_pure ⟨rfl, h₅⟩)) fun _ _ h' => h')) fun _ _ h' => h'))

theorem start_inu {elt it1 it2 : Expr} {x y : Str} {px py : Pos} {scope : Scope} {pos : Pos} {it acc : Value} {env : Env}
    (h0 : codeAny (model prog w) A (.compLoop (comp2u elt it1 it2 x y px py scope pos) 1 it acc env) R s)
    (h : wpAny (model prog w) A (pyIter it) (fun it' s' => codeAny (model prog w) A (.compLoop (comp2u elt it1 it2 x y px py scope pos) 1 it' acc env) R s')
      (notedBy (model prog w) A env fun x s' => R (.error x) s') s) :
    codeAny (model prog w) A (.compStart (comp2u elt it1 it2 x y px py scope pos) 1 it acc env) R s := by
  refine codeAny_of_tree ?_
  show wpAny _ _ ((compStart (comp2u elt it1 it2 x y px py scope pos) 1 it acc env).onRaise (fun x => do noteFrame x env; standAt theWindowsPlace)) _ _ s
  refine wpAny_notedAt ?_
  unfold compStart
  show wpAny _ _ (ask >>= _) _ _ s
  refine wpAny_bind (wpAny_askSetting (wpAny_ite ?_))
  split
  · first
      | exact wpAny_bind (wpAny_pure (wpAny_pure (And.intro rfl h0)))
      | exact wpAny_pure (And.intro rfl h0)
  · first
      | exact wpAny_bind (wpAny_rule (wpAny_bind (wpAny_standAt (wpAny_bind (wpAny_mono h (fun it' s' h' => wpAny_pure (And.intro rfl h')) fun _ _ x => x)))))
      | (refine wpAny_bind (wpAny_rule ?_); show wpAny _ _ (standAt it2.pos >>= _) _ _ s; exact wpAny_bind (wpAny_standAt (wpAny_bind (wpAny_mono h (fun it' s' h' => wpAny_pure (And.intro rfl h')) fun _ _ x => x))))

theorem loop_outu {elt it1 it2 : Expr} {x y : Str} {px py : Pos} {scope : Scope} {pos : Pos} {it acc : Value} {env : Env} (hf : ∀ z, foldedSetIterable it2 env z = pure z) (I : Nat → Shared → Prop)
    (turn : ∀ n s, I n s → wpAny (model prog w) A (pyNext it) (fun r s₁ => match r with
      | none => R (.ok .next) s₁
      | some v => wpAny (model prog w) A (assign (.Name x px) env v) (fun _ s₂ =>
          wpAny (model prog w) A (eval it2 env) (fun z s₃ => wpAny (model prog w) A (pyIter z) (fun jt s₄ =>
            codeAny (model prog w) A (.compStart (comp2u elt it1 it2 x y px py scope pos) 1 jt acc env) (fun r s₅ => match r with | .ok _ => ∃ m, m < n ∧ I m s₅ | .error e => cameBackBy (model prog w) A env (notedBy (model prog w) A env fun e s' => R (.error e) s') e s₅) s₄)
            (notedBy (model prog w) A env fun e s' => R (.error e) s') s₃) (notedBy (model prog w) A env fun e s' => R (.error e) s') s₂) (notedBy (model prog w) A env fun e s' => R (.error e) s') s₁) (notedBy (model prog w) A env fun e s' => R (.error e) s') s)
    (n : Nat) (h : I n s) : codeAny (model prog w) A (.compLoop (comp2u elt it1 it2 x y px py scope pos) 0 it acc env) R s := by
  refine codeAny_loop rfl I (fun n s hI => ?_) n h
  show wpAny _ A ((compTurn (comp2u elt it1 it2 x y px py scope pos) 0 it acc env).onRaise (fun x => do noteFrame x env; theTreesLotGoes x)) _ _ s
  refine wpAny_noted ?_
  rw [compTurn_outu]
  refine wpAny_bind (wpAny_standAt (wpAny_bind (wpAny_mono (turn n s hI) (fun r s₁ h₁ => ?_) fun _ _ h' => h')))
  cases r with
  | none => exact wpAny_pure h₁
  | some v =>
    refine wpAny_bind (wpAny_of_eq (show letOwnedTupleGo (.Name x px) it v = pure () from rfl) ?_)
    refine wpAny_bind (wpAny_mono h₁ (fun _ s₂ h₂ => wpAny_bind (wpAny_tests_nil ?_)) fun _ _ h' => h')
    simp only [if_true]
    refine wpAny_bind (wpAny_mono h₂ (fun z s₃ h₃ => wpAny_bind (wpAny_standAt (wpAny_bind (wpAny_of_eq (hf z) (wpAny_bind (wpAny_holding (wpAny_mono h₃ (fun jt s₄ h₄ => ?_) fun _ _ h' => h'))))))) fun _ _ h' => h')
    refine wpAny_bind (wpAny_runOwn (codeAny_mono (show codeAny (model prog w) (A.mark none) _ _ s₄ from h₄) fun r s₅ h₅ => ?_))
    cases r with
    | ok f => exact wpAny_pure ⟨rfl, h₅⟩
    | error e => exact h₅
end

section
variable {prog : Program} {w : World} {A : Around} {E : Value → Shared → Prop} {h₀ : Heap} {L : Addr} {m : Str → Option Value} {env : Env}
open LCg

/-- what a turn leaves -/
def Next2 (I : Addr) (oI : Obj) (K : List (Addr × Obj) → Prop) (nw' : List (Addr × Obj)) : Prop := ∃ nw2, nw' = (I, oI) :: nw2 ∧ (∀ p ∈ nw2, p.1 ≠ I) ∧ K nw2

theorem inner_2u {elt it1 it2 : Expr} {x y : Str} {px py : Pos} {scope : Scope} {cl : List (Str × Addr)} {pos : Pos} {s₂ : Shared} {I2 C D : Addr} {n2 : Nat} {I : Addr} {oI : Obj} {nw : List (Addr × Obj)} {J : Nat → List Value → List (Addr × Obj) → Prop} {vx : Value} {R : Result → Shared → Prop} {h : Heap} {tk : Nat} {ys : List Value} {m' : Str → Option Value}
    (hh : A.handled = none) (hxy : x ≠ y) (hkind : scope.kind = .function) (hy : scope.names.lookup y = some .local)
    (hCL : C ≠ L) (hDL : D ≠ L) (hIL : I2 ≠ L) (hC₀ : h₀.get? C = none) (hD₀ : h₀.get? D = none) (hI₀ : h₀.get? I2 = none) (hCD : C ≠ D) (hIC : I2 ≠ C) (hID : I2 ≠ D) (hCI : C ≠ I) (hDI : D ≠ I) (hI2I : I2 ≠ I) (off : ∀ p ∈ nw, p.1 ≠ I2 ∧ p.1 ≠ C ∧ p.1 ≠ D ∧ p.1 ≠ I)
    (hst : IsRangeIter h I2 (0 + (0 : Nat) * 1) ((n2 : Int) - (0 : Nat)) 1) (st : Two h₀ L m C D ys ((I, oI) :: nw) m' h) (hmx : m' x = some vx) (hJ : J 0 ys nw) (hsz : ∀ j ys nw, J j ys nw → ys.length ≤ sizeLine)
    (turn : ∀ (j : Nat) t' ys nw oI2 oI oC m₂ h tk (E' : Value → Shared → Prop), j < n2 → J j ys nw → NsObj oC m₂ → m₂ x = some vx → m₂ y = some (.int (j : Int) t') → Fr h₀ L h m → News h₀ L h ((I2, oI2) :: (C, oC) :: (D, lst ys) :: (I, oI) :: nw) → (∀ p ∈ nw, p.1 ≠ I2 ∧ p.1 ≠ C ∧ p.1 ≠ D ∧ p.1 ≠ I) →
      wpAny (model prog w) A (eval elt (compEnvC scope cl C env)) (CompEnd h₀ L m { s₂ with heap := h, toks := tk } I2 oI2 C oC D (lst ys) (fun _ => True) (fun z nw' => Next2 I oI (J (j + 1) (ys ++ [z])) nw')) E' { s₂ with heap := h, toks := tk })
    (done : ∀ h tk ys nw m', Two h₀ L m C D ys ((I, oI) :: nw) m' h → (∀ p ∈ nw, p.1 ≠ C ∧ p.1 ≠ D ∧ p.1 ≠ I) → J n2 ys nw → R (.ok .next) { s₂ with heap := h, toks := tk }) :
    codeAny (model prog w) A (.compLoop (comp2u elt it1 it2 x y px py scope pos) 1 (.ref I2) (.ref D) (compEnvC scope cl C env)) R { s₂ with heap := h, toks := tk } := by
  have W := range_walks (prog := prog) (w := w) (I := I2) hh 0 n2
  refine loop_inu
    (fun k s' => ∃ h' tk j ys nw m', s' = { s₂ with heap := h', toks := tk } ∧ j ≤ n2 ∧ k = n2 + 1 - j ∧ IsRangeIter h' I2 (0 + (j : Nat) * 1) ((n2 : Int) - (j : Nat)) 1 ∧ Two h₀ L m C D ys ((I, oI) :: nw) m' h' ∧ m' x = some vx ∧ J j ys nw ∧ (∀ p ∈ nw, p.1 ≠ I2 ∧ p.1 ≠ C ∧ p.1 ≠ D ∧ p.1 ≠ I)) ?_ (n2 + 1)
    ⟨h, tk, 0, ys, nw, m', rfl, Nat.zero_le _, rfl, hst, st, hmx, hJ, off⟩
  clear hJ off st nw
  rintro k s' ⟨h', tk, j, ys, nw, m', rfl, hj, rfl, hst', ⟨F', hn', N'⟩, hmx', hJ', off⟩
  have off3 : ∀ p ∈ (I, oI) :: nw, p.1 ≠ I2 ∧ p.1 ≠ C ∧ p.1 ≠ D := fun p hp => by
    rcases List.mem_cons.mp hp with rfl | hp
    · exact ⟨Ne.symm hI2I, Ne.symm hCI, Ne.symm hDI⟩
    · exact ⟨(off p hp).1, (off p hp).2.1, (off p hp).2.2.1⟩
  by_cases hlt : j < n2
  · refine W.item j _ _ _ hlt hst' fun v h₂ tk₂ hPv hst₂ hk₂ => ?_
    obtain ⟨t', rfl⟩ := hPv
    refine wpAny_assign_Name (wpAny_storeName_local (lookup_relabel_local hy) (hn'.at' fun o e => hk₂ _ o (by simpa using Ne.symm hIC) e) (fun h₃ hn₃ hs₃ => ?_) (by simp [compEnvC, relabel, hkind]))
    have hst₃ := W.frame _ _ _ hst₂ fun b hb o e => hs₃.extBut b o (fun q => hIC (by have q1 : b = C := q; rw [← q1]; exact (List.mem_singleton.mp hb).symm)) e
    have heI : h₃.get? I2 = some _ := hst₃
    obtain ⟨oC, heC, hoC⟩ := ns_obj hn₃
    have F₃ : Fr h₀ L h₃ m := (fr_but F' hk₂ (Ne.symm hIL) hI₀).change hs₃ hCL hC₀
    have N₂ : News h₀ L h₂ ((D, lst ys) :: (I, oI) :: nw) := news_but N' hk₂ fun p hp => by
      rcases List.mem_cons.mp hp with rfl | hp
      · exact Ne.symm hID
      · exact (off3 p hp).1
    have N₃ : News h₀ L h₃ ((I2, _) :: (C, oC) :: (D, lst ys) :: (I, oI) :: nw) := fun p hp => by
      rcases List.mem_cons.mp hp with rfl | hp
      · exact ⟨heI, hIL, hI₀⟩
      · rcases List.mem_cons.mp hp with rfl | hp
        · exact ⟨heC, hCL, hC₀⟩
        · have z := N₂ p hp
          refine ⟨hs₃.extBut _ _ ?_ z.1, z.2⟩
          rcases List.mem_cons.mp hp with rfl | hp
          · exact Ne.symm hCD
          · exact (off3 p hp).2.1
    have e0 : (0 : Int) + (j : Int) = (j : Int) := Int.zero_add _
    refine wpAny_mono (turn j t' ys nw _ oI oC _ h₃ _ _ hlt hJ' hoC (by simp [hxy, hmx']) (by simp [e0]) F₃ N₃ off) (fun z s₅ h₅ => ?_) fun _ _ e => e
    obtain ⟨g₄, tk₄, nw', rfl, F₄, N₄, off₄, _, nw2, rfl, offI, hJ₄⟩ := h₅
    have off₄' := off₄.mem
    have zI := (N₄ _ List.mem_cons_self).1
    have zC := (N₄ (C, oC) (List.mem_cons_of_mem _ List.mem_cons_self)).1
    have zD := (N₄ (D, lst ys) (List.mem_cons_of_mem _ (List.mem_cons_of_mem _ List.mem_cons_self))).1
    have N₄' : News h₀ L g₄ ((I, oI) :: nw2) := fun p hp => N₄ p (List.mem_cons_of_mem _ (List.mem_cons_of_mem _ (List.mem_cons_of_mem _ hp)))
    have hst₄ := rangeIter_of hst₃ heI zI
    refine append_at (hsz := by show ys.toArray.size ≤ sizeLine; rw [List.size_toArray]; exact hsz _ _ _ hJ') zD fun h₅ hs₅ hD₅ => ?_
    refine ⟨n2 + 1 - (j + 1), by omega, h₅, tk₄, j + 1, ys ++ [z], nw2, _, rfl, hlt, rfl, W.frame _ _ _ hst₄ fun b hb o e => hs₅.extBut b o (fun q => hID (by rw [← q]; exact (List.mem_singleton.mp hb).symm)) e, ⟨F₄.change hs₅ hDL hD₀, (hoC.ns zC).sameBut hs₅ hCD, fun p hp => ?_⟩, by simp [hxy, hmx'], hJ₄, fun p hp => ⟨(off₄' p (.tail _ hp)).1, (off₄' p (.tail _ hp)).2.1, (off₄' p (.tail _ hp)).2.2, offI p hp⟩⟩
    rcases List.mem_cons.mp hp with rfl | hp
    · exact ⟨hD₅.trans (congrArg some (lst_snoc ys z)), hDL, hD₀⟩
    · exact ⟨hs₅.extBut _ _ (off₄' p hp).2.2 (N₄' p hp).1, (N₄' p hp).2⟩
  · obtain rfl : j = n2 := Nat.le_antisymm hj (Nat.not_lt.mp hlt)
    refine W.done _ _ _ hst' fun h₂ tk₂ hk₂ => ?_
    refine done h₂ tk₂ ys nw m' ⟨fr_but F' hk₂ (Ne.symm hIL) hI₀, hn'.at' fun o e => hk₂ _ o (by simpa using Ne.symm hIC) e, news_but N' hk₂ fun p hp => ?_⟩ (fun p hp => ⟨(off p hp).2.1, (off p hp).2.2.1, (off p hp).2.2.2⟩) hJ'
    rcases List.mem_cons.mp hp with rfl | hp
    · exact Ne.symm hID
    · exact (off3 p hp).1
end

section
variable {prog : Program} {w : World} {A : Around} {E : Value → Shared → Prop} {h₀ : Heap} {L : Addr} {m : Str → Option Value} {env : Env}
open LCg

theorem block_2u {elt it1 it2 : Expr} {x y : Str} {px py : Pos} {scope : Scope} {cl : List (Str × Addr)} {pos : Pos} {s₂ : Shared} {I : Addr} {n n2 : Nat} {news : List (Addr × Obj)} {J : Nat → Nat → List Value → List (Addr × Obj) → Prop} {RR : Value → Addr → Result → Shared → Prop}
    (hh : A.handled = none) (hxy : x ≠ y) (hf : ∀ z, foldedSetIterable it2 (compEnvC scope cl 0 env) z = pure z) (hf' : ∀ C z, foldedSetIterable it2 (compEnvC scope cl C env) z = foldedSetIterable it2 (compEnvC scope cl 0 env) z)
    (hcell : ∀ z ∈ scope.names, z.2 ≠ .cell) (hkind : scope.kind = .function) (hx : scope.names.lookup x = some .local) (hy : scope.names.lookup y = some .local)
    (hst : IsRangeIter s₂.heap I (0 + (0 : Nat) * 1) ((n : Int) - (0 : Nat)) 1) (hIlt : I < s₂.heap.objs.size) (hn2 : n2 ≤ 1000)
    (F : Fr h₀ L s₂.heap m) (N : News h₀ L s₂.heap news) (hIL : L ≠ I) (hI₀ : h₀.get? I = none) (off : ∀ p ∈ news, p.1 ≠ I)
    (hJ0 : J 0 0 [] news) (hsz : ∀ i j ys nw, J i j ys nw → ys.length ≤ sizeLine) (hnext : ∀ i ys nw, i < n → J i n2 ys nw → J (i + 1) 0 ys nw)
    (second : ∀ (i : Nat) t ys nw oI C oC D m₂ h tk (E' : Value → Shared → Prop), i < n → NsObj oC m₂ → m₂ x = some (.int (i : Int) t) → Fr h₀ L h m → J i 0 ys nw → News h₀ L h ((C, oC) :: (D, lst ys) :: (I, oI) :: nw) →
      wpAny (model prog w) A (eval it2 (compEnvC scope cl C env)) (RangeAt h₀ L m n2 { s₂ with heap := h, toks := tk } ((C, oC) :: (D, lst ys) :: (I, oI) :: nw)) E' { s₂ with heap := h, toks := tk })
    (turn : ∀ (i j : Nat) t t' ys nw I2 oI2 oI C oC D m₂ h tk (E' : Value → Shared → Prop), i < n → j < n2 → J i j ys nw → NsObj oC m₂ → m₂ x = some (.int (i : Int) t) → m₂ y = some (.int (j : Int) t') → Fr h₀ L h m → News h₀ L h ((I2, oI2) :: (C, oC) :: (D, lst ys) :: (I, oI) :: nw) → (∀ p ∈ nw, p.1 ≠ I2 ∧ p.1 ≠ C ∧ p.1 ≠ D ∧ p.1 ≠ I) → ((@Ne Nat I2 C) ∧ (@Ne Nat I2 D) ∧ (@Ne Nat C D) ∧ (@Ne Nat C I) ∧ (@Ne Nat D I) ∧ (@Ne Nat I2 I)) →
      wpAny (model prog w) A (eval elt (compEnvC scope cl C env)) (CompEnd h₀ L m { s₂ with heap := h, toks := tk } I2 oI2 C oC D (lst ys) (fun _ => True) (fun z nw' => Next2 I oI (J i (j + 1) (ys ++ [z])) nw')) E' { s₂ with heap := h, toks := tk })
    (hRR : ∀ D C h tk m' ys nw, Fr h₀ L h m → News h₀ L h ((D, lst ys) :: nw) → Off1 D nw → h.Ns C m' → h₀.get? C = none → h₀.get? D = none → C ≠ L → D ≠ L → C ≠ D → (∀ p ∈ nw, p.1 ≠ C) → J n 0 ys nw → RR (.ref D) C (.ok .next) { s₂ with heap := h, toks := tk }) :
    wpAny (model prog w) A (newList []) (fun acc s₃ => wpAny (model prog w) A (newFunctionEnv scope env.globals cl [] env.qual none .none (some env)) (fun cenv s₄ =>
      codeAny (model prog w) A (.compStart (comp2u elt it1 it2 x y px py scope pos) 0 (.ref I) acc { cenv with scope := relabel scope env }) (RR acc cenv.locals) s₄) E s₃) E s₂ := by
  have W := range_walks (prog := prog) (w := w) (I := I) hh 0 n
  refine wpAny_newObj_type (wpAny_newFunctionEnv hcell (by intro z hz; simp at hz) (fun h₁ hns₁ hsb₁ => ?_) hkind)
  dsimp only at hns₁ hsb₁ ⊢
  generalize hH2 : s₂.heap.push { cls := .type "list", dict := none, data := .seq ([] : List Value).toArray } = H2 at hns₁ hsb₁ ⊢
  have hC : H2.objs.size = s₂.heap.objs.size + 1 := by rw [← hH2, Heap.size_push]
  have hDC : s₂.heap.objs.size ≠ H2.objs.size := by rw [hC]; exact Nat.ne_of_lt (Nat.lt_succ_self _)
  have below : ∀ b, b < s₂.heap.objs.size → b ≠ H2.objs.size ∧ b ≠ s₂.heap.objs.size := fun b hb => ⟨by rw [hC]; exact Nat.ne_of_lt (Nat.lt_succ_of_lt hb), Nat.ne_of_lt hb⟩
  have old : ∀ b o, s₂.heap.get? b = some o → h₁.get? b = some o := fun b o e => hsb₁.extBut b o (below b (Heap.lt_size e)).1 (Heap.get?_push_of_some _ (hH2 ▸ Heap.get?_push_of_some _ e))
  have hacc : h₁.get? s₂.heap.objs.size = some (lst []) := hsb₁.extBut _ _ hDC (Heap.get?_push_of_some _ (hH2 ▸ Heap.get?_push_size _ rfl))
  have hst₁ := W.frame 0 _ _ hst fun b _ o e => old b o e
  have fresh : ∀ a, s₂.heap.objs.size ≤ a → s₂.heap.get? a = none := fun a ha => by
    cases e : s₂.heap.get? a with
    | none => rfl
    | some o' => exact absurd (Heap.lt_size e) (Nat.not_lt.mpr ha)
  have fresh₀ : ∀ a, s₂.heap.objs.size ≤ a → h₀.get? a = none := fun a ha => by
    cases e : h₀.get? a with
    | none => rfl
    | some o' => have z := F.keep a o' e; rw [fresh a ha] at z; cases z
  have hD₀ : h₀.get? s₂.heap.objs.size = none := fresh₀ _ (Nat.le_refl _)
  have hC₀ : h₀.get? H2.objs.size = none := fresh₀ _ (by rw [hC]; exact Nat.le_succ _)
  have hLlt : L < s₂.heap.objs.size := F.ns.lt
  have hDL : s₂.heap.objs.size ≠ L := Ne.symm (below L hLlt).2
  have hCL : H2.objs.size ≠ L := Ne.symm (below L hLlt).1
  have hCI : I ≠ H2.objs.size := (below I hIlt).1
  have hDI : I ≠ s₂.heap.objs.size := (below I hIlt).2
  have off3 : ∀ p ∈ news, p.1 ≠ I ∧ p.1 ≠ H2.objs.size ∧ p.1 ≠ s₂.heap.objs.size := fun p hp => ⟨off p hp, (below _ (Heap.lt_size (N p hp).1)).1, (below _ (Heap.lt_size (N p hp).1)).2⟩
  have hff : ∀ z, foldedSetIterable it2 (compEnvC scope cl H2.objs.size env) z = pure z := fun z => (hf' _ z).trans (hf z)
  have loop : ∀ s₃ : Shared, s₃ = { s₂ with heap := h₁, toks := s₂.toks + ([] : List (Str × Value)).length } →
      codeAny (model prog w) A (.compLoop (comp2u elt it1 it2 x y px py scope pos) 0 (.ref I) (.ref s₂.heap.objs.size) (compEnvC scope cl H2.objs.size env))
        (RR (.ref s₂.heap.objs.size) H2.objs.size) s₃ := by
    rintro s₃ rfl
    refine loop_outu hff
      (fun k s' => ∃ h' tk i ys nw m', s' = { s₂ with heap := h', toks := tk } ∧ i ≤ n ∧ k = n + 1 - i ∧ IsRangeIter h' I (0 + (i : Nat) * 1) ((n : Int) - (i : Nat)) 1 ∧ Two h₀ L m H2.objs.size s₂.heap.objs.size ys nw m' h' ∧ J i 0 ys nw ∧ (∀ p ∈ nw, p.1 ≠ I ∧ p.1 ≠ H2.objs.size ∧ p.1 ≠ s₂.heap.objs.size)) ?_ (n + 1)
      ⟨h₁, _, 0, [], news, _, rfl, Nat.zero_le _, rfl, hst₁, ⟨F.keeps old, hns₁, fun p hp => ?_⟩, hJ0, off3⟩
    · clear hJ0 off N off3
      rintro k s' ⟨h', tk, i, ys, nw, m', rfl, hi, rfl, hst', ⟨F', hn', N'⟩, hJ', off3⟩
      by_cases hlt : i < n
      · refine W.item i _ _ _ hlt hst' fun v h₂ tk₂ hPv hst₂ hk₂ => ?_
        obtain ⟨t', rfl⟩ := hPv
        refine wpAny_assign_Name (wpAny_storeName_local (lookup_relabel_local hx) (hn'.at' fun o e => hk₂ _ o (by simpa using Ne.symm hCI) e) (fun h₃ hn₃ hs₃ => ?_) (by simp [compEnvC, relabel, hkind]))
        have hst₃ := W.frame _ _ _ hst₂ fun b hb o e => hs₃.extBut b o (fun q => hCI (by have q1 : b = H2.objs.size := q; rw [← q1]; exact (List.mem_singleton.mp hb).symm)) e
        have heI : h₃.get? I = some _ := hst₃
        obtain ⟨oC, heC, hoC⟩ := ns_obj hn₃
        have F₃ : Fr h₀ L h₃ m := (fr_but F' hk₂ hIL hI₀).change hs₃ hCL hC₀
        have N₂ : News h₀ L h₂ ((s₂.heap.objs.size, lst ys) :: nw) := news_but N' hk₂ fun p hp => by
          rcases List.mem_cons.mp hp with rfl | hp
          · exact Ne.symm hDI
          · exact (off3 p hp).1
        have N₃ : News h₀ L h₃ ((H2.objs.size, oC) :: (s₂.heap.objs.size, lst ys) :: (I, _) :: nw) := fun p hp => by
          rcases List.mem_cons.mp hp with rfl | hp
          · exact ⟨heC, hCL, hC₀⟩
          · rcases List.mem_cons.mp hp with rfl | hp
            · have z := N₂ _ List.mem_cons_self
              exact ⟨hs₃.extBut _ _ hDC z.1, z.2⟩
            · rcases List.mem_cons.mp hp with rfl | hp
              · exact ⟨heI, Ne.symm hIL, hI₀⟩
              · have z := N₂ p (List.mem_cons_of_mem _ hp)
                exact ⟨hs₃.extBut _ _ (off3 p hp).2.1 z.1, z.2⟩
        have e0 : (0 : Int) + (i : Int) = (i : Int) := Int.zero_add _
        refine wpAny_mono (second i t' ys nw _ H2.objs.size oC s₂.heap.objs.size _ h₃ _ _ hlt hoC (by simp [e0]) F₃ hJ' N₃) (fun xv s₄ h₄ => ?_) fun _ _ e => e
        obtain ⟨r, tr, ur, vr, g₄, tk₄, rfl, rfl, F₄, N₄, hr⟩ := h₄
        refine wpAny_pyIter_range hr (small_one (by decide) (by decide) (by omega) (by omega)) ?_
        generalize hI2 : g₄.objs.size = I2
        have hlt4 : ∀ p ∈ ((H2.objs.size, oC) :: (s₂.heap.objs.size, lst ys) :: (I, _) :: nw), p.1 ≠ I2 := fun p hp => by rw [← hI2]; exact Nat.ne_of_lt (Heap.lt_size (N₄ p hp).1)
        have up : ∀ b o, g₄.get? b = some o → (g₄.push { cls := .type "range_iterator", data := .fields #[rawInt 0, rawInt (Builtin.Range.rangeSize 0 (n2 : Int) 1), rawInt 1] }).get? b = some o := fun b o e => Heap.get?_push_of_some _ e
        have hsize : Builtin.Range.rangeSize 0 (n2 : Int) 1 = (n2 : Int) := by rw [rangeSize_nat]; omega
        have hI2₀ : h₀.get? I2 = none := hI2 ▸ next_is_new F₄
        have hI2L : I2 ≠ L := by rw [← hI2]; exact Ne.symm (Nat.ne_of_lt F₄.ns.lt)
        have zC := N₄ (H2.objs.size, oC) List.mem_cons_self
        have zD := N₄ (s₂.heap.objs.size, lst ys) (List.mem_cons_of_mem _ List.mem_cons_self)
        have N₄' : News h₀ L g₄ ((s₂.heap.objs.size, lst ys) :: (I, _) :: nw) := fun p hp => N₄ p (List.mem_cons_of_mem _ hp)
        have run : ∀ s₆ : Shared, s₆ = { s₂ with heap := g₄.push { cls := .type "range_iterator", data := .fields #[rawInt 0, rawInt (Builtin.Range.rangeSize 0 (n2 : Int) 1), rawInt 1] }, toks := tk₄ } →
            codeAny (model prog w) A (.compLoop (comp2u elt it1 it2 x y px py scope pos) 1 (.ref I2) (.ref s₂.heap.objs.size) (compEnvC scope cl H2.objs.size env)) (fun r s₅ => match r with
              | .ok _ => ∃ m_1, m_1 < n + 1 - i ∧ ∃ h' tk i ys nw m', s₅ = { s₂ with heap := h', toks := tk } ∧ i ≤ n ∧ m_1 = n + 1 - i ∧ IsRangeIter h' I (0 + (i : Nat) * 1) ((n : Int) - (i : Nat)) 1 ∧ Two h₀ L m H2.objs.size s₂.heap.objs.size ys nw m' h' ∧ J i 0 ys nw ∧ (∀ p ∈ nw, p.1 ≠ I ∧ p.1 ≠ H2.objs.size ∧ p.1 ≠ s₂.heap.objs.size)
              | .error e => cameBackBy (model prog w) A (compEnvC scope cl H2.objs.size env) (notedBy (model prog w) A (compEnvC scope cl H2.objs.size env) fun e s' => RR (.ref s₂.heap.objs.size) H2.objs.size (.error e) s') e s₅) s₆ := by
          rintro s₆ rfl
          refine inner_2u (J := J i) (nw := nw) (n2 := n2) (vx := .int (0 + (i : Int)) t') hh hxy hkind hy hCL hDL hI2L hC₀ hD₀ hI2₀ (Ne.symm hDC) (Ne.symm (hlt4 _ List.mem_cons_self)) (Ne.symm (hlt4 _ (List.mem_cons_of_mem _ List.mem_cons_self))) (Ne.symm hCI) (Ne.symm hDI) (Ne.symm (hlt4 _ (List.mem_cons_of_mem _ (List.mem_cons_of_mem _ List.mem_cons_self)))) (fun p hp => ⟨hlt4 p (List.mem_cons_of_mem _ (List.mem_cons_of_mem _ (List.mem_cons_of_mem _ hp))), (off3 p hp).2.1, (off3 p hp).2.2, (off3 p hp).1⟩)
            (by rw [← hI2, hsize]; exact Heap.get?_push_size _ rfl) ⟨F₄.push _, (hoC.ns zC.1).at' fun o e => up _ o e, fun p hp => ⟨up _ _ (N₄' p hp).1, (N₄' p hp).2⟩⟩ (by simp) hJ' (fun j ys nw h => hsz i j ys nw h) ?_ ?_
          · intro j t'' ys' nw' oI2 oI' oC' m₂ h9 tk9 E' hj hJ9 hC9 hx9 hy9 F9 N9 off9
            rw [e0] at hx9
            exact turn i j t' t'' ys' nw' I2 oI2 oI' H2.objs.size oC' s₂.heap.objs.size m₂ h9 tk9 E' hlt hj hJ9 hC9 hx9 hy9 F9 N9 off9 ⟨Ne.symm (hlt4 _ List.mem_cons_self), Ne.symm (hlt4 _ (List.mem_cons_of_mem _ List.mem_cons_self)), Ne.symm hDC, Ne.symm hCI, Ne.symm hDI, Ne.symm (hlt4 _ (List.mem_cons_of_mem _ (List.mem_cons_of_mem _ List.mem_cons_self)))⟩
          · intro h9 tk9 ys' nw' m9 st9 off9 hJ9
            refine ⟨n + 1 - (i + 1), by omega, h9, tk9, i + 1, ys', nw', m9, rfl, hlt, rfl, ?_, ⟨st9.fr, st9.ns, fun p hp => st9.nw p ?_⟩, hnext i ys' nw' hlt hJ9, fun p hp => ⟨(off9 p hp).2.2, (off9 p hp).1, (off9 p hp).2.1⟩⟩
            · exact rangeIter_of hst₃ heI (st9.nw (I, _) (List.mem_cons_of_mem _ List.mem_cons_self)).1
            · rcases List.mem_cons.mp hp with rfl | hp
              · exact List.mem_cons_self
              · exact List.mem_cons_of_mem _ (List.mem_cons_of_mem _ hp)
        refine start_inu (run _ rfl) ?_
        exact (range_walks (prog := prog) (w := w) (I := I2) hh 0 n2).self 0 _ _ _ (by rw [← hI2, hsize]; exact Heap.get?_push_size _ rfl) (run _ rfl)
      · obtain rfl : i = n := Nat.le_antisymm hi (Nat.not_lt.mp hlt)
        refine W.done _ _ _ hst' fun h₂ tk₂ hk₂ => ?_
        refine hRR _ _ h₂ tk₂ m' ys nw (fr_but F' hk₂ hIL hI₀) (news_but N' hk₂ fun p hp => ?_) (Off3.one (I := I) (C := H2.objs.size) (Off3.of off3)) (hn'.at' fun o e => hk₂ _ o (by simpa using Ne.symm hCI) e) hC₀ hD₀ hCL hDL (Ne.symm hDC) (fun p hp => (off3 p hp).2.1) hJ'
        rcases List.mem_cons.mp hp with rfl | hp
        · exact Ne.symm hDI
        · exact (off3 p hp).1
    · rcases List.mem_cons.mp hp with rfl | hp
      · exact ⟨hacc, hDL, hD₀⟩
      · exact ⟨old _ _ (N p hp).1, (N p hp).2⟩
  exact codeAny_compStart_list (loop _ rfl) (W.self 0 _ _ _ hst₁ (loop _ rfl))
end

section
variable {prog : Program} {w : World} {A : Around} {E : Value → Shared → Prop} {s : Shared} {h₀ : Heap} {L : Addr} {m : Str → Option Value} {env : Env}
open LCg

/-- what is to be shown of the turns of two ranges within a comprehension -/
def Turns2u (prog : Program) (w : World) (A : Around) (h₀ : Heap) (L : Addr) (m : Str → Option Value) (env : Env) (elt it2 : Expr) (x y : Str) (scope : Scope) (cl : List (Str × Addr)) (n n2 : Nat) (J : Nat → Nat → List Value → List (Addr × Obj) → Prop) (s₂ : Shared) : Prop :=
  (∀ (i : Nat) t ys nw I oI C oC D m₂ h tk (E' : Value → Shared → Prop), i < n → NsObj oC m₂ → m₂ x = some (.int (i : Int) t) → Fr h₀ L h m → J i 0 ys nw → News h₀ L h ((C, oC) :: (D, lst ys) :: (I, oI) :: nw) →
      wpAny (model prog w) A (eval it2 (compEnvC scope cl C env)) (RangeAt h₀ L m n2 { s₂ with heap := h, toks := tk } ((C, oC) :: (D, lst ys) :: (I, oI) :: nw)) E' { s₂ with heap := h, toks := tk }) ∧
  (∀ (i j : Nat) t t' ys nw I2 oI2 I oI C oC D m₂ h tk (E' : Value → Shared → Prop), i < n → j < n2 → J i j ys nw → NsObj oC m₂ → m₂ x = some (.int (i : Int) t) → m₂ y = some (.int (j : Int) t') → Fr h₀ L h m → News h₀ L h ((I2, oI2) :: (C, oC) :: (D, lst ys) :: (I, oI) :: nw) → (∀ p ∈ nw, p.1 ≠ I2 ∧ p.1 ≠ C ∧ p.1 ≠ D ∧ p.1 ≠ I) → ((@Ne Nat I2 C) ∧ (@Ne Nat I2 D) ∧ (@Ne Nat C D) ∧ (@Ne Nat C I) ∧ (@Ne Nat D I) ∧ (@Ne Nat I2 I)) →
      wpAny (model prog w) A (eval elt (compEnvC scope cl C env)) (CompEnd h₀ L m { s₂ with heap := h, toks := tk } I2 oI2 C oC D (lst ys) (fun _ => True) (fun z nw' => Next2 I oI (J i (j + 1) (ys ++ [z])) nw')) E' { s₂ with heap := h, toks := tk })

def Src2u (prog : Program) (w : World) (A : Around) (h₀ : Heap) (L : Addr) (m : Str → Option Value) (env : Env) (elt it2 : Expr) (x y : Str) (scope : Scope) (cl : List (Str × Addr)) (Fin : Shared → List Value → List (Addr × Obj) → Prop) (xv : Value) (s₁ : Shared) : Prop :=
  ∃ r t u v n n2 news J, xv = .ref r ∧ A.handled = none ∧ Fr h₀ L s₁.heap m ∧ News h₀ L s₁.heap news ∧ IsRange s₁.heap r 0 ((n : Nat) : Int) 1 t u v ∧ n ≤ 1000 ∧ n2 ≤ 1000 ∧ J 0 0 [] news ∧ (∀ i j ys nw, J i j ys nw → ys.length ≤ sizeLine) ∧ (∀ i ys nw, i < n → J i n2 ys nw → J (i + 1) 0 ys nw) ∧
    ∀ s₂ : Shared, (∃ h, s₂ = { s₁ with heap := h }) → Turns2u prog w A h₀ L m env elt it2 x y scope cl n n2 J s₂ ∧ ∀ ys nw, J n 0 ys nw → Fin s₂ ys nw

theorem Assign_ListComp_2u {elt it1 it2 : Expr} {x y z : Str} {px py pz : Pos} {scope : Scope} {cl : List (Str × Addr)} {pos spos : Pos} {Q : Flow → Shared → Prop} (_F₀ : Fr h₀ L s.heap m) (hLe : env.locals = L)
    (hsw : swapsWith (comp2u elt it1 it2 x y px py scope pos) (some (.Name z pz)) spos.line env = pure true)
    (hclos : closureFor scope env = pure cl) (hcell : ∀ z ∈ scope.names, z.2 ≠ .cell) (hkind : scope.kind = .function)
    (hnames : ∀ z ∈ scope.names, z.2 = .local → scope.names.lookup z.1 = some .local) (hx : scope.names.lookup x = some .local) (hy : scope.names.lookup y = some .local) (hxy : x ≠ y)
    (hz : env.kindOf z = some .local) (hp : (env.scope.kind == .class || (env.scope.kind == .module && env.locals != env.globals)) = false)
    (hf : ∀ z, foldedSetIterable it2 (compEnvC scope cl 0 env) z = pure z) (hf' : ∀ C z, foldedSetIterable it2 (compEnvC scope cl C env) z = foldedSetIterable it2 (compEnvC scope cl 0 env) z)
    (h : wpAny (model prog w) A (eval it1 env) (Src2u prog w A h₀ L m env elt it2 x y scope cl (fun s₂ => FinA h₀ L m s₂ z Q)) E s)
    (hs : ∀ z, foldedSetIterable it1 env z = pure z := by intro _; rfl) :
    wpAny (model prog w) A (exec (.Assign [.Name z pz] (comp2u elt it1 it2 x y px py scope pos) spos) env) Q E s := by
  subst hLe
  rw [exec_Assign_Name_used _ _ _ _ hsw]
  refine wpAny_bind (wpAny_standAt (wpAny_bind ?_))
  show wpAny _ A (do let _ ← comprehension (comp2u elt it1 it2 x y px py scope pos) scope env _ (newList []) false (eval it1 env) (some (assign (.Name z pz) env))) _ _ s
  refine wpAny_bind (wpAny_mono (wpAny_comprehension_free (use := some (assign (.Name z pz) env)) (Q := fun _ s' => Q .next s') rfl hs hclos hkind hnames
    (wpAny_mono h (fun xv s₁ h₁ => ?_) fun _ _ e => e)) (fun _ s' hq => wpAny_pure (wpAny_pure hq)) fun _ _ e => e)
  obtain ⟨r, t, u, v, n, n2, news, J, rfl, hh, F, N, hr, hn, hn2, hJ0, hsz, hnext, rest⟩ := h₁
  refine wpAny_pyIter_range hr (small_one (by decide) (by decide) (by omega) (by omega)) ?_
  have hsize : Builtin.Range.rangeSize 0 (n : Int) 1 = (n : Int) := by rw [rangeSize_nat]; omega
  obtain ⟨⟨h2, ht⟩, fin⟩ := rest _ ⟨_, rfl⟩
  refine block_2u (J := J) hh hxy hf hf' hcell hkind hx hy (by rw [hsize]; exact Heap.get?_push_size _ rfl) ?_ hn2
    (F.keeps fun _ _ e => Heap.get?_push_of_some _ e) (N.grown fun _ _ e => Heap.get?_push_of_some _ e) (Nat.ne_of_lt F.ns.lt) (next_is_new F) (fun p hp => Nat.ne_of_lt (Heap.lt_size (N p hp).1)) hJ0 hsz hnext ?_ ?_ ?_
  · show s₁.heap.objs.size < (s₁.heap.push _).objs.size
    rw [Heap.size_push]; exact Nat.lt_succ_self _
  · exact fun i t ys nw oI C oC D m₂ h tk E' a b c d e f => h2 i t ys nw _ oI C oC D m₂ h tk E' a b c d e f
  · exact fun i j t t' ys nw I2 oI2 oI C oC D m₂ h tk E' a b c d e f g k l o => ht i j t t' ys nw I2 oI2 _ oI C oC D m₂ h tk E' a b c d e f g k l o
  · intro D C h' tk m' ys nw F' N' o1 hn' hC₀ hD₀ hCL hDL hCD offC hJ
    show wpAny _ A (assign (.Name z pz) env (.ref D)) _ _ _
    refine wpAny_assign_Name (wpAny_storeName_local hz F'.ns (fun h₂ hn₂ hs₂ => ?_) hp)
    have hL₀ : h₀.get? env.locals = none := Heap.get?_none_of_le F'.above
    have F₂ : Fr h₀ env.locals h₂ (fun q => if q = z then some (.ref D) else m q) := ⟨hn₂, fun b o e => hs₂.extBut b o (fun q => by rw [q, hL₀] at e; cases e) (F'.keep b o e), F'.above⟩
    refine ⟨m', hn'.sameBut hs₂ hCL, fun h'' hs'' => fin ys nw hJ D h'' _ (F₂.change hs'' hCL hC₀) (fun p hp => ?_) o1⟩
    have zz : h₂.get? p.1 = some p.2 := hs₂.extBut _ _ (N' p hp).2.1 (N' p hp).1
    refine ⟨hs''.extBut _ _ ?_ zz, (N' p hp).2⟩
    rcases List.mem_cons.mp hp with rfl | hp
    · exact Ne.symm hCD
    · exact offC p hp
end

section
variable {prog : Program} {w : World} {A : Around} {E : Value → Shared → Prop} {s : Shared}
/-- the order of pairs -/
noncomputable def pairLt (a b a' b' : Int) : Bool := if a == a' then (if b == b' then false else decide (b < b')) else decide (a < a')
theorem tup_lt {p q : Addr} {a b a' b' : Int} {t u t' u' : Tok} {Q : Value → Shared → Prop} (hp : s.heap.IsTuple p #[.int a t, .int b u]) (hq : s.heap.IsTuple q #[.int a' t', .int b' u']) (hu : A.units < cLine)
    (h : Q (.bool (pairLt a b a' b')) s) : wpAny (model prog w) A (compareOp .Lt (.ref p) (.ref q)) Q E s := by
  show wpAny _ _ (richCompare .Lt (.ref p) (.ref q)) Q E s
  have hTp : s.TypeIs (.ref p) "tuple" := hp.typeIs
  have hTq : s.TypeIs (.ref q) "tuple" := hq.typeIs
  obtain ⟨⟨c1, d1, x1, l1⟩, e1, hc1, n1, hd1⟩ := hp
  obtain ⟨⟨c2, d2, x2, l2⟩, e2, hc2, n2, hd2⟩ := hq
  simp only at hc1 hd1 hc2 hd2
  subst hc1 hd1 hc2 hd2
  refine wpAny_richCompare_same_room (op := .Lt) hTp hTq F.slot_tuple_lt (wpAny_call_entry F.slot_tuple_lt hTp F.entry_tuple_lt ?_ (F.args_tuple_lt_2 _ _)) hu
  show wpAny _ _ (isInstance (.ref q) (.type "tuple") >>= _) _ _ s
  refine wpAny_bind (wpAny_isInstance hTq isSubtype_tuple_tuple ?_)
  simp only [Bool.not_true, Bool.false_eq_true, if_false]
  refine wpAny_bind (wpAny_tupleItemsOf e1 rfl ?_)
  refine wpAny_bind (wpAny_tupleItemsOf e2 rfl ?_)
  simp only [List.zip_cons_cons, List.zip_nil_right, List.forIn_cons, List.forIn_nil]
  unfold pairLt at h
  refine wpAny_bind (wpAny_bind (wpAny_bind (wpAny_eqBool_int ?_)))
  cases h1 : a == a' with
  | false =>
    rw [h1] at h
    simp only [Bool.false_eq_true, if_false] at h
    simp only [Bool.not_false, if_true]
    refine wpAny_bind (wpAny_rule (wpAny_bind (wpAny_mono (wpAny_lt_int (Q := fun v s' => v = .bool (decide (a < a')) ∧ s' = s) ⟨rfl, rfl⟩) (fun v s' hv => ?_) fun _ _ e => e)))
    obtain ⟨rfl, rfl⟩ := hv
    exact wpAny_pure (wpAny_pure (wpAny_pure ⟨_, rfl, by simp, h⟩))
  | true =>
    rw [h1] at h
    simp only [if_true] at h
    simp only [Bool.not_true, Bool.false_eq_true, if_false]
    refine wpAny_pure ?_
    refine wpAny_bind (wpAny_bind (wpAny_eqBool_int ?_))
    cases h2 : b == b' with
    | false =>
      rw [h2] at h
      simp only [Bool.false_eq_true, if_false] at h
      simp only [Bool.not_false, if_true]
      refine wpAny_bind (wpAny_rule (wpAny_bind (wpAny_mono (wpAny_lt_int (Q := fun v s' => v = .bool (decide (b < b')) ∧ s' = s) ⟨rfl, rfl⟩) (fun v s' hv => ?_) fun _ _ e => e)))
      obtain ⟨rfl, rfl⟩ := hv
      exact wpAny_pure (wpAny_pure (wpAny_pure ⟨_, rfl, by simp, h⟩))
    | true =>
      rw [h2] at h
      simp only [if_true] at h
      simp only [Bool.not_true, Bool.false_eq_true, if_false]
      refine wpAny_pure (wpAny_pure ?_)
      exact wpAny_pure ⟨_, rfl, (fun e : Value.bool false = Value.notImplemented => nomatch e), h⟩
end
end
section
/-- the key of a place: its sum and what orders it -/
noncomputable def keyOf (x y : Int) : Int × Int := (x + y, if (x + y).fmod 2 = 1 then y else x)
/-- the keys of the places ahead of (i, j) in a block of side n, row by row -/
noncomputable def keysTo (n : Nat) : Nat → Nat → List (Int × Int)
  | 0, j => (List.range j).map fun (b : Nat) => keyOf 0 (b : Int)
  | i + 1, j => keysTo n i n ++ (List.range j).map fun (b : Nat) => keyOf ((i + 1 : Nat) : Int) (b : Int)
theorem keysTo_step (n i j : Nat) : keysTo n i (j + 1) = keysTo n i j ++ [keyOf (i : Int) (j : Int)] := by
  cases i with
  | zero => simp [keysTo, List.range_succ]
  | succ i => simp [keysTo, List.range_succ]
theorem keysTo_next (n i : Nat) : keysTo n (i + 1) 0 = keysTo n i n := by simp [keysTo]
theorem keysTo_len (n i j : Nat) : (keysTo n i j).length = i * n + j := by
  induction i generalizing j with
  | zero => simp [keysTo]
  | succ i ih => simp [keysTo, ih, Nat.succ_mul]
/-- how many keys stand ahead of a key -/
noncomputable def cntLt (ks : List (Int × Int)) (q : Int × Int) : Nat := (ks.filter fun p => pairLt p.1 p.2 q.1 q.2).length
theorem cntLt_step {ks : List (Int × Int)} {q p : Int × Int} {i : Nat} (h : ks[i]? = some p) : cntLt (ks.take (i + 1)) q = cntLt (ks.take i) q + (if pairLt p.1 p.2 q.1 q.2 = true then 1 else 0) := by
  unfold cntLt
  rw [List.take_add_one, h, List.filter_append, List.length_append]
  simp only [Option.toList_some]
  cases hp : pairLt p.1 p.2 q.1 q.2 <;> simp [hp]
/-- the rank of a place of a block, None outside of it -/
noncomputable def rankO (n : Nat) (x y : Int) : Option Int := if (n : Int) ≤ x ∨ (n : Int) ≤ y then none else some (cntLt (keysTo n n 0) (keyOf x y) : Int)
/-- values that are pairs of ints -/
inductive TupsAre (nw : List (Addr × Obj)) : List Value → List (Int × Int) → Prop where
  | nil : TupsAre nw [] []
  | cons {t : Addr} {b e : Int} {tb te : Tok} {n : Nat} {vs : List Value} {ks : List (Int × Int)} : (t, ({ cls := .type "tuple", data := .seq #[.int b tb, .int e te] n } : Obj)) ∈ nw → TupsAre nw vs ks → TupsAre nw (.ref t :: vs) ((b, e) :: ks)
theorem TupsAre.mono {nw nw' : List (Addr × Obj)} {vs : List Value} {ks : List (Int × Int)} (h : TupsAre nw vs ks) (k : ∀ p ∈ nw, p ∈ nw') : TupsAre nw' vs ks := by
  induction h with
  | nil => exact .nil
  | cons hm _ ih => exact .cons (k _ hm) ih
theorem TupsAre.snoc {nw : List (Addr × Obj)} {vs : List Value} {ks : List (Int × Int)} {t : Addr} {b e : Int} {tb te : Tok} {n : Nat} (h : TupsAre nw vs ks) (hm : (t, ({ cls := .type "tuple", data := .seq #[.int b tb, .int e te] n } : Obj)) ∈ nw) : TupsAre nw (vs ++ [.ref t]) (ks ++ [(b, e)]) := by
  induction h with
  | nil => exact .cons hm .nil
  | cons hm' _ ih => exact .cons hm' ih
theorem TupsAre.length {nw : List (Addr × Obj)} {vs : List Value} {ks : List (Int × Int)} (h : TupsAre nw vs ks) : vs.length = ks.length := by
  induction h with
  | nil => rfl
  | cons _ _ ih => simp [ih]
theorem TupsAre.get {nw : List (Addr × Obj)} {vs : List Value} {ks : List (Int × Int)} (h : TupsAre nw vs ks) {i : Nat} {v : Value} (hv : vs[i]? = some v) : ∃ t b e tb te n, v = .ref t ∧ ks[i]? = some (b, e) ∧ (t, ({ cls := .type "tuple", data := .seq #[.int b tb, .int e te] n } : Obj)) ∈ nw := by
  induction h generalizing i with
  | nil => simp at hv
  | @cons t b e tb te n vs ks hm _ ih =>
    cases i with
    | zero =>
      simp only [List.getElem?_cons_zero, Option.some.injEq] at hv
      exact ⟨t, b, e, tb, te, n, hv.symm, by simp, hm⟩
    | succ i =>
      simp only [List.getElem?_cons_succ] at hv ⊢
      exact ih hv
end
section

/-- what a call makes of the ledger, framed by `rest` -/
def LeaveS (h₀ : Heap) (L : Addr) (m : Str → Option Value) (g : Heap) (rest : List (Addr × Obj)) (R : Result → Shared → Prop) (v : Value) (s' : Shared) : Prop :=
  ∃ L' m' own', Fr g L' s'.heap m' ∧ News g L' s'.heap own' ∧ (Fr h₀ L s'.heap m → News h₀ L s'.heap (own' ++ rest) → R (.ok (.ret v)) s')

theorem leaveS_of {h₀ g : Heap} {L : Addr} {m : Str → Option Value} {own rest : List (Addr × Obj)} {R : Result → Shared → Prop} {v : Value} {s s' : Shared}
    (N : News h₀ L s.heap (own ++ rest)) (hg : ∀ p ∈ rest, g.get? p.1 = some p.2) (h : LeaveS h₀ L m g rest R v s') : LeaveK h₀ L m g R v s' := by
  obtain ⟨L', m', own', F', N', k⟩ := h
  refine ⟨L', m', own', F', N', fun F₂ N₂ => k F₂ fun p hp => ?_⟩
  rcases List.mem_append.mp hp with hp | hp
  · exact N₂ p hp
  · have z := N p (List.mem_append_right _ hp)
    exact ⟨F'.keep _ _ (hg p hp), z.2.1, z.2.2⟩

section
variable {prog : Program} {w : World} {A₀ A : Around} {s : Shared} {base h₀ : Heap} {outer : List Env} {L : Addr} {m : Str → Option Value} {env : Env} {own rest : List (Addr × Obj)} {K : Frag} {p : Program} {loose : List Str} {mean : ExcName → Option Value} {mg mb : Str → Option Value}
  {R : Result → Shared → Prop} {name qual : Str} {params : Arguments} {body : List Stmt} {scope : Scope} {dV kV doc pm cdv ct oc : Value} {an od : Option Addr} {osl : Array (Option Value)} {f : Addr} {args : Args} {binds : List (Str × Value)}

theorem rest_stays (N : News h₀ L s.heap (own ++ rest)) (hdis : ∀ p ∈ rest, ∀ q ∈ own, p.1 ≠ q.1) : ∀ p ∈ rest, (hideAll s.heap (own.map (·.1))).get? p.1 = some p.2 := by
  intro p hp
  refine hideAll_get _ (N p (List.mem_append_right _ hp)).1 fun q => ?_
  obtain ⟨r, hr, e⟩ := List.mem_map.mp q
  exact hdis p hp r hr e.symm

theorem defS (B : Below A₀ base outer h₀) (F : Fr h₀ L s.heap m) (X₀ : K.In h₀) (N : News h₀ L s.heap (own ++ rest)) (hdis : ∀ p ∈ rest, ∀ q ∈ own, p.1 ≠ q.1) (T : Top p loose mean mg mb h₀) (hA : A.frames = some (env :: outer)) (hf : env.frame = some L) (hke : env.scope.kind = .function)
    (ho : K.lookup f = some ⟨oc, od, .func (fnOf name qual params body scope dV kV doc pm an cdv ct), osl⟩) (hcd : codeIn K cdv qual = true) (hroom : A.depth < recursionLimit)
    (hbind : BindsTo s (fnOf name qual params body scope dV kV doc pm an cdv ct) args binds) (hloc : ∀ y ∈ binds, scope.names.lookup y.1 = some .local)
    (h : ∀ g L' h₁, Fr g L' h₁ (fun y => binds.reverse.lookup y) → News g L' h₁ own → Below A base (env :: outer) g → K.In g → Top p loose mean mg mb g → (∀ p ∈ own ++ rest, p.1 < L') → (∀ p ∈ rest, g.get? p.1 = some p.2) →
      wpAny (model prog w) (A.deeper (envOf qual scope L' f cdv)) (execs body (envOf qual scope L' f cdv))
        (fun fl s' => LeaveS h₀ L m g rest R (match fl with | .ret v => v | _ => .none) s')
        (fun e s' => wpAny (model prog w) (A.deeper (envOf qual scope L' f cdv)) (leaving (envOf qual scope L' f cdv) e) (fun _ s'' => R (.error e) s'') (fun e' s'' => R (.error e') s'') s')
        { s with heap := h₁, toks := s.toks + binds.length })
    (hco : scope.isCoroutine = false) (hgen : scope.isGenerator = false) (hk : scope.kind = .function)
    (hcell : ∀ x ∈ scope.names, x.2 ≠ .cell) : codeAny (model prog w) A (.call (.ref f) args) R s := by
  have No : News h₀ L s.heap own := fun p hp => N p (List.mem_append_left _ hp)
  obtain ⟨FG, BG, st, lv⟩ := groundX (R := R) B F No hA hf hke
  have hrs := rest_stays N hdis
  refine codeAny_call_def (fd := fnX name qual params body scope [] dV kV doc pm an cdv ct) (body := body) (binds := binds) hroom ((X₀.keeps F.keep) _ _ ho) rfl (T.nolimit.keeps F.keep) (codeRec_of (X₀.keeps F.keep) hcd) rfl hbind hcell hloc (fun h₁ hns hk₁ => ?_) hco hgen hk
  exact wpAny_mono (h _ s.heap.objs.size h₁ ⟨hns, fun b o e => hk₁ b o (of_hideAll _ e), Nat.le_of_eq (hideAll_size _ _)⟩
    (fun p hp => ⟨hk₁ _ _ (No p hp).1, Nat.ne_of_lt (Heap.lt_size (No p hp).1), hideAll_none _ (List.mem_map_of_mem hp)⟩) BG (X₀.keeps st) (T.keeps st) (fun p hp => Heap.lt_size (N p hp).1) hrs) (fun fl s' hl => lv _ _ (leaveS_of N hrs hl)) fun _ _ y => y
end

/-- A contract of a def of the text: from the ledger `news`, whatever stands around, the call gives back `v` and leaves a ledger `news'` with `Post v news'`. -/
def Meet (w : World) (f : Addr) (vs : List Value) (dn du : Nat) (news : List (Addr × Obj)) (Post : Value → List (Addr × Obj) → Prop) : Prop :=
  ∀ (mean : ExcName → Option Value) (mg mb : Str → Option Value) (dp un : Nat) (gd : Option (List Code)) (cn : Str) (cs : Scope) (a : Addr) (ccd : Value) (cl : List (Str × Addr)) (outer : List Env) (A₀ : Around) (base h₀ : Heap) (L : Addr) (m : Str → Option Value) (s : Shared)
    (Q E : Value → Shared → Prop),
    Below A₀ base outer h₀ → Fr h₀ L s.heap m → (hd.heap_1 w.params).In h₀ → News h₀ L s.heap news → Top topV (looseW topV [Str.ofString "ORDER_8"]) mean mg mb h₀ → cs.kind = .function → dp + dn < recursionLimit → un + du < cLine →
    (∀ v h' tk' news', Fr h₀ L h' m → News h₀ L h' news' → Post v news' → Q v { s with heap := h', toks := tk' }) →
    wpAny (model PySem.Challenge.rw_ok0138_01.row.prog w) (ktrTop dp un gd cn cs L a ccd cl outer) (call (.ref f) vs) Q E s


section
variable {prog : Program} {w : World} {A₀ A : Around} {s : Shared} {base h₀ : Heap} {outer : List Env} {L : Addr} {m : Str → Option Value} {env : Env} {own rest : List (Addr × Obj)} {K : Frag} {p : Program} {loose : List Str} {mean : ExcName → Option Value} {mg mb : Str → Option Value}
  {R : Result → Shared → Prop} {name qual : Str} {params : Arguments} {body : List Stmt} {scope : Scope} {dV kV doc pm cdv ct oc : Value} {an od : Option Addr} {osl : Array (Option Value)} {f : Addr} {args : Args} {binds : List (Str × Value)}

theorem defSC (B : Below A₀ base outer h₀) (F : Fr h₀ L s.heap m) (X₀ : K.In h₀) (N : News h₀ L s.heap (own ++ rest)) (hdis : ∀ p ∈ rest, ∀ q ∈ own, p.1 ≠ q.1) (T : Top p loose mean mg mb h₀) (hA : A.frames = some (env :: outer)) (hf : env.frame = some L) (hke : env.scope.kind = .function)
    (ho : K.lookup f = some ⟨oc, od, .func (fnOf name qual params body scope dV kV doc pm an cdv ct), osl⟩) (hcd : codeIn K cdv qual = true) (hroom : A.depth < recursionLimit)
    (hbind : BindsTo s (fnOf name qual params body scope dV kV doc pm an cdv ct) args binds) (hkind : (binds.all fun y => scope.names.lookup y.1 == some .local || scope.names.lookup y.1 == some .cell) = true)
    (hnd : ((cellsFrom 0 scope.names []).map (·.1)).Nodup)
    (h : ∀ g L' h₁ tk cells, Fr g L' h₁ (bindL (envOfC qual scope L' f cdv).kindOf binds fun _ => none) → News g L' h₁ (cells ++ own) →
      CellsAre (bindC (envOfC qual scope L' f cdv).kindOf binds fun _ => none) (cellsFrom (L' + 1) scope.names []) cells → Below A base (env :: outer) g → K.In g → Top p loose mean mg mb g → (∀ p ∈ own ++ rest, p.1 < L') → (∀ p ∈ rest, g.get? p.1 = some p.2) →
      wpAny (model prog w) (A.deeper (envOfC qual scope L' f cdv)) (execs body (envOfC qual scope L' f cdv))
        (fun fl s' => LeaveS h₀ L m g rest R (match fl with | .ret v => v | _ => .none) s')
        (fun e s' => wpAny (model prog w) (A.deeper (envOfC qual scope L' f cdv)) (leaving (envOfC qual scope L' f cdv) e) (fun _ s'' => R (.error e) s'') (fun e' s'' => R (.error e') s'') s')
        { s with heap := h₁, toks := tk })
    (hco : scope.isCoroutine = false) (hgen : scope.isGenerator = false) (hk : scope.kind = .function) : codeAny (model prog w) A (.call (.ref f) args) R s := by
  have No : News h₀ L s.heap own := fun p hp => N p (List.mem_append_left _ hp)
  obtain ⟨FG, BG, st, lv⟩ := groundX (R := R) B F No hA hf hke
  have hrs := rest_stays N hdis
  refine codeAny_call_function hroom ((X₀.keeps F.keep) _ _ ho) (fd := fnX name qual params body scope [] dV kV doc pm an cdv ct) rfl hco hgen rfl (codeRec_of (X₀.keeps F.keep) hcd) (hbind _ _ _ _ ?_)
  refine wpAny_newFunctionEnv_cells hk (kindsX hkind _) fun env' he s' x => ?_
  subst he
  refine ⟨(T.nolimit.keeps F.keep).keeps x.toInCall.keep, codeAny_func ?_⟩
  obtain ⟨h₁, tk, rfl, _⟩ := x.done
  have hk₁ := x.toInCall.keep
  obtain ⟨cells, NC, Y⟩ := Cl.news (h₀ := s.heap) (Nat.le_refl _) fun n c hm => ⟨x.cell n c (lookup_of_mem_nodup (cellsFrom_names scope.names 0 (s.heap.objs.size + 1) [] [] rfl ▸ hnd) hm), x.above n c hm⟩
  have NN : News (hideAll s.heap (own.map (·.1))) s.heap.objs.size h₁ (cells ++ own) := by
    intro p hp
    rcases List.mem_append.mp hp with hp | hp
    · refine ⟨(NC p hp).1, (NC p hp).2.1, ?_⟩
      cases q : (hideAll s.heap (own.map (·.1))).get? p.1 with
      | none => rfl
      | some o => have z := of_hideAll _ q; rw [(NC p hp).2.2] at z; cases z
    · exact ⟨hk₁ _ _ (No p hp).1, Nat.ne_of_lt (Heap.lt_size (No p hp).1), hideAll_none _ (List.mem_map_of_mem hp)⟩
  exact wpAny_mono (h _ s.heap.objs.size h₁ tk cells ⟨x.toInCall.ns, fun b o e => hk₁ b o (of_hideAll _ e), Nat.le_of_eq (hideAll_size _ _)⟩ NN Y BG (X₀.keeps st) (T.keeps st) (fun p hp => Heap.lt_size (N p hp).1) hrs) (fun fl s' hl => lv _ _ (leaveS_of N hrs hl)) fun _ _ y => y
end

/-- A contract of a def that changes nothing that stands: `Pre` is asked of the heap. -/
def MeetH (w : World) (f : Addr) (vs : List Value) (dn du : Nat) (news : List (Addr × Obj)) (Pre : Heap → Prop) (Post : Value → List (Addr × Obj) → Prop) : Prop :=
  ∀ (mean : ExcName → Option Value) (mg mb : Str → Option Value) (dp un : Nat) (gd : Option (List Code)) (cn : Str) (cs : Scope) (a : Addr) (ccd : Value) (cl : List (Str × Addr)) (outer : List Env) (A₀ : Around) (base h₀ : Heap) (L : Addr) (m : Str → Option Value) (s : Shared)
    (Q E : Value → Shared → Prop),
    Below A₀ base outer h₀ → Fr h₀ L s.heap m → (hd.heap_1 w.params).In h₀ → News h₀ L s.heap news → Top topV (looseW topV [Str.ofString "ORDER_8"]) mean mg mb h₀ → cs.kind = .function → Pre s.heap → dp + dn < recursionLimit → un + du < cLine →
    (∀ v h' tk' news', Fr h₀ L h' m → News h₀ L h' news' → Post v news' → Q v { s with heap := h', toks := tk' }) →
    wpAny (model PySem.Challenge.rw_ok0138_01.row.prog w) (ktrTop dp un gd cn cs L a ccd cl outer) (call (.ref f) vs) Q E s

section
variable {prog : Program} {w : World} {A₀ A : Around} {s : Shared} {base h₀ : Heap} {outer : List Env} {L : Addr} {m : Str → Option Value} {env : Env} {news : List (Addr × Obj)} {K : Frag} {p : Program} {loose : List Str} {mean : ExcName → Option Value} {mg mb : Str → Option Value}
  {R : Result → Shared → Prop} {name qual : Str} {params : Arguments} {body : List Stmt} {scope : Scope} {dV kV doc pm cdv ct oc : Value} {an od : Option Addr} {osl : Array (Option Value)} {f : Addr} {args : Args} {binds : List (Str × Value)}

theorem leave0_of {g : Heap} {v : Value} {s s' : Shared} (N : News h₀ L s.heap news) (hg : g = s.heap) (h : LeaveS h₀ L m g news R v s') : LeaveK h₀ L m g R v s' :=
  leaveS_of (own := []) (rest := news) N (fun p hp => by rw [hg]; exact (N p hp).1) h

theorem defS0 (B : Below A₀ base outer h₀) (F : Fr h₀ L s.heap m) (X₀ : K.In h₀) (N : News h₀ L s.heap news) (T : Top p loose mean mg mb h₀) (hA : A.frames = some (env :: outer)) (hf : env.frame = some L) (hke : env.scope.kind = .function)
    (ho : K.lookup f = some ⟨oc, od, .func (fnOf name qual params body scope dV kV doc pm an cdv ct), osl⟩) (hcd : codeIn K cdv qual = true) (hroom : A.depth < recursionLimit)
    (hbind : BindsTo s (fnOf name qual params body scope dV kV doc pm an cdv ct) args binds) (hloc : ∀ y ∈ binds, scope.names.lookup y.1 = some .local)
    (h : ∀ g L' h₁, g = s.heap → Fr g L' h₁ (fun y => binds.reverse.lookup y) → News g L' h₁ [] → Below A base (env :: outer) g → K.In g → Top p loose mean mg mb g → (∀ p ∈ news, p.1 < L') → (∀ p ∈ news, g.get? p.1 = some p.2) →
      wpAny (model prog w) (A.deeper (envOf qual scope L' f cdv)) (execs body (envOf qual scope L' f cdv))
        (fun fl s' => LeaveS h₀ L m g news R (match fl with | .ret v => v | _ => .none) s')
        (fun e s' => wpAny (model prog w) (A.deeper (envOf qual scope L' f cdv)) (leaving (envOf qual scope L' f cdv) e) (fun _ s'' => R (.error e) s'') (fun e' s'' => R (.error e') s'') s')
        { s with heap := h₁, toks := s.toks + binds.length })
    (hco : scope.isCoroutine = false) (hgen : scope.isGenerator = false) (hk : scope.kind = .function)
    (hcell : ∀ x ∈ scope.names, x.2 ≠ .cell) : codeAny (model prog w) A (.call (.ref f) args) R s := by
  obtain ⟨FG, BG, st, lv⟩ := groundX (R := R) B F (News.nil (h₀ := h₀) (L := L) (h := s.heap)) hA hf hke
  refine codeAny_call_def (fd := fnX name qual params body scope [] dV kV doc pm an cdv ct) (body := body) (binds := binds) hroom ((X₀.keeps F.keep) _ _ ho) rfl (T.nolimit.keeps F.keep) (codeRec_of (X₀.keeps F.keep) hcd) rfl hbind hcell hloc (fun h₁ hns hk₁ => ?_) hco hgen hk
  exact wpAny_mono (h s.heap s.heap.objs.size h₁ rfl ⟨hns, fun b o e => hk₁ b o e, Nat.le_refl _⟩ News.nil BG (X₀.keeps st) (T.keeps st) (fun p hp => Heap.lt_size (N p hp).1) (fun p hp => (N p hp).1)) (fun fl s' hl => lv _ _ (leave0_of N rfl hl)) fun _ _ y => y

theorem defS0C (B : Below A₀ base outer h₀) (F : Fr h₀ L s.heap m) (X₀ : K.In h₀) (N : News h₀ L s.heap news) (T : Top p loose mean mg mb h₀) (hA : A.frames = some (env :: outer)) (hf : env.frame = some L) (hke : env.scope.kind = .function)
    (ho : K.lookup f = some ⟨oc, od, .func (fnOf name qual params body scope dV kV doc pm an cdv ct), osl⟩) (hcd : codeIn K cdv qual = true) (hroom : A.depth < recursionLimit)
    (hbind : BindsTo s (fnOf name qual params body scope dV kV doc pm an cdv ct) args binds) (hkind : (binds.all fun y => scope.names.lookup y.1 == some .local || scope.names.lookup y.1 == some .cell) = true)
    (hnd : ((cellsFrom 0 scope.names []).map (·.1)).Nodup)
    (h : ∀ g L' h₁ tk cells, g = s.heap → Fr g L' h₁ (bindL (envOfC qual scope L' f cdv).kindOf binds fun _ => none) → News g L' h₁ cells →
      CellsAre (bindC (envOfC qual scope L' f cdv).kindOf binds fun _ => none) (cellsFrom (L' + 1) scope.names []) cells → Below A base (env :: outer) g → K.In g → Top p loose mean mg mb g → (∀ p ∈ news, p.1 < L') → (∀ p ∈ news, g.get? p.1 = some p.2) →
      wpAny (model prog w) (A.deeper (envOfC qual scope L' f cdv)) (execs body (envOfC qual scope L' f cdv))
        (fun fl s' => LeaveS h₀ L m g news R (match fl with | .ret v => v | _ => .none) s')
        (fun e s' => wpAny (model prog w) (A.deeper (envOfC qual scope L' f cdv)) (leaving (envOfC qual scope L' f cdv) e) (fun _ s'' => R (.error e) s'') (fun e' s'' => R (.error e') s'') s')
        { s with heap := h₁, toks := tk })
    (hco : scope.isCoroutine = false) (hgen : scope.isGenerator = false) (hk : scope.kind = .function) : codeAny (model prog w) A (.call (.ref f) args) R s := by
  obtain ⟨FG, BG, st, lv⟩ := groundX (R := R) B F (News.nil (h₀ := h₀) (L := L) (h := s.heap)) hA hf hke
  refine codeAny_call_function hroom ((X₀.keeps F.keep) _ _ ho) (fd := fnX name qual params body scope [] dV kV doc pm an cdv ct) rfl hco hgen rfl (codeRec_of (X₀.keeps F.keep) hcd) (hbind _ _ _ _ ?_)
  refine wpAny_newFunctionEnv_cells hk (kindsX hkind _) fun env' he s' x => ?_
  subst he
  refine ⟨(T.nolimit.keeps F.keep).keeps x.toInCall.keep, codeAny_func ?_⟩
  obtain ⟨h₁, tk, rfl, _⟩ := x.done
  have hk₁ := x.toInCall.keep
  obtain ⟨cells, NC, Y⟩ := Cl.news (h₀ := s.heap) (Nat.le_refl _) fun n c hm => ⟨x.cell n c (lookup_of_mem_nodup (cellsFrom_names scope.names 0 (s.heap.objs.size + 1) [] [] rfl ▸ hnd) hm), x.above n c hm⟩
  exact wpAny_mono (h s.heap s.heap.objs.size h₁ tk cells rfl ⟨x.toInCall.ns, fun b o e => hk₁ b o e, Nat.le_refl _⟩ NC Y BG (X₀.keeps st) (T.keeps st) (fun p hp => Heap.lt_size (N p hp).1) (fun p hp => (N p hp).1)) (fun fl s' hl => lv _ _ (leave0_of N rfl hl)) fun _ _ y => y
end
theorem room3 {a b c k N : Nat} (h : a + k < N) (e : b + c ≤ k) : a + b + c < N := by omega
theorem units_lit {a : Nat} (h : a < 9900) : a < cLine := by
  rw [cLine_is]
  exact h
theorem room1 {a k N : Nat} (h : a + k < N) : a < N := Nat.lt_of_le_of_lt (Nat.le_add_right a k) h
theorem room2 {a b k N : Nat} (h : a + k < N) (e : b ≤ k) : a + b < N := Nat.lt_of_le_of_lt (Nat.add_le_add_left e a) h
theorem size_lit {a : Nat} (h : Nat.ble a 16777216 = true) : a ≤ PySem.sizeLine := by
  rw [PySem.sizeLine_eq]
  exact Nat.le_of_ble_eq_true h
theorem small_n {b : Int} (h0 : 0 ≤ b) (h1 : b ≤ 100) : Builtin.Range.small 0 b 1 = true := small_one (by omega) (by omega) (by omega) (by omega)
end
section
local macro_rules | `(tactic| walk_at "m_enA") => `(tactic| ((case kA => exact rfl); (case kF => exact rfl); (case kK => assumption); (case k1 => k_asm); (case k2 => k_asm); (case k3 => k_asm); (case k4 => k_asm); (case k5 => k_asm); (case k6 => k_is); (case k7 => k_is); (case k8 => ktr_room); (case k9 => exact BindsTo.of_eq rfl)))
local macro_rules | `(tactic| walk_at "m_enB") => `(tactic| ((case c2 => exact rfl); (case c3 => exact rfl); (case c4 => exact rfl)))
local macro_rules | `(tactic| walk_at "m_k6") => `(tactic| ((case k1 => k_asm); (case k2 => k_asm); (case k3 => k_asm); (case k4 => k_asm); (case k5 => k_asm); (case k6 => first | exact rfl | assumption)))
local macro_rules | `(tactic| walk_at "m_enterS") => `(tactic| (refine' defS ?k1 ?k2 ?k3 ?k4 ?kS ?k5 ?kA ?kF ?kK ?k6 ?k7 ?k8 ?k9 ?kB ?_ ?c2 ?c3 ?c4 ?c5; walk_at "m_enA"; (case kS => assumption); (case c5 => decide); (case kB => exact locs rfl); walk_at "m_enB"; k_whole; intro g' L' h' F' N' B' X' T' lo' gr'; (try dsimp only)))
local macro_rules | `(tactic| walk_at "m_enterSC") => `(tactic| (refine' defSC ?k1 ?k2 ?k3 ?k4 ?kS ?k5 ?kA ?kF ?kK ?k6 ?k7 ?k8 ?k9 ?kB ?kD ?_ ?c2 ?c3 ?c4; walk_at "m_enA"; (case kS => assumption); (case kB => exact rfl); (case kD => decide +kernel); walk_at "m_enB"; k_whole; intro g' L' h' tk' cells' F' N' Y' B' X' T' lo' gr'; k_cells Y'; (try simp only [List.cons_append, List.nil_append] at N'); (try dsimp only)))
local macro_rules | `(tactic| k_room) => `(tactic| ktr_room)
local macro_rules | `(tactic| walk_at "m_enter0") => `(tactic| (refine' defS0 ?k1 ?k2 ?k3 ?k4 ?k5 ?kA ?kF ?kK ?k6 ?k7 ?k8 ?k9 ?kB ?_ ?c2 ?c3 ?c4 ?c5; walk_at "m_enA"; (case c5 => decide); (case kB => exact locs rfl); walk_at "m_enB"; k_whole; intro g' L' h' eg' F' N' B' X' T' lo' gr'; (try dsimp only)))
local macro_rules | `(tactic| walk_at "m_enter0C") => `(tactic| (refine' defS0C ?k1 ?k2 ?k3 ?k4 ?k5 ?kA ?kF ?kK ?k6 ?k7 ?k8 ?k9 ?kB ?kD ?_ ?c2 ?c3 ?c4; walk_at "m_enA"; (case kB => exact rfl); (case kD => decide +kernel); walk_at "m_enB"; k_whole; intro g' L' h' tk' cells' eg' F' N' Y' B' X' T' lo' gr'; k_cells Y'; (try dsimp only)))
local macro_rules | `(tactic| walk_at "m_pick") => `(tactic| first | with_reducible assumption | (apply And.left; (iterate 16 (try (first | with_reducible assumption | apply And.right))); done) | ((iterate 16 (try (first | with_reducible assumption | apply And.right))); done))
local macro_rules | `(tactic| k_ne) => `(tactic| (refine neN ?_; (try dsimp only); first | (refine Nat.ne_of_lt ?_; walk_at "m_pick") | (refine Nat.ne_of_gt ?_; walk_at "m_pick") | walk_at "m_pick" | (refine Ne.symm ?_; walk_at "m_pick")))
local macro_rules | `(tactic| ktr_room) => `(tactic| first | exact room3 (by assumption) (by decide) | exact room1 (by assumption) | exact room2 (by assumption) (by decide) | decide | fail "room")
local macro_rules | `(tactic| ktr_units) => `(tactic| first | exact room3 (by assumption) (by decide) | exact units_lit (by decide) | fail "units")
local macro_rules | `(tactic| size_fits) => `(tactic| first | with_reducible assumption | exact size_lit rfl | fail "size")
section
def SrcOk (s0 s1 : Int) : Prop := 0 ≤ s0 ∧ 0 ≤ s1 ∧ s1 < 2147483647
set_option maxHeartbeats 8000000 in
theorem take_meet (w : World) (src : Addr) (s0 s1 : Int) (t0 t1 : Tok) (n : Nat) (rest : List (Addr × Obj)) (top : Int) (tt : Tok) (hdis : ∀ p ∈ rest, ∀ q ∈ [(src, listOf [Value.int s0 t0, .int s1 t1].toArray n)], p.1 ≠ q.1)
    (h0 : 0 ≤ s0) (h1 : 0 ≤ s1) (h1' : s1 < 2147483647) (ht : 1 ≤ top) (ht' : top < 1000) :
    Meet w 435 [.ref src, .int top tt] 4 40 ([(src, listOf [Value.int s0 t0, .int s1 t1].toArray n)] ++ rest)
      (fun v news' => ∃ r t s0' t0' s1' t1' n', v = .int r t ∧ 0 ≤ r ∧ r < top ∧ SrcOk s0' s1' ∧ news' = (src, listOf [Value.int s0' t0', .int s1' t1'].toArray n') :: rest) := by
  unfold Meet
  k_fill
  intro mean mg mb dp un gd cn cs a ccd cl outer A₀ base h₀ L m s Q E B F X N T hk hd hu hret
  refine wpAny_call ?_
  k_dflt (walk_at "m_enterS")
  k_fold
  k_steps
  · show LeaveS _ _ _ _ _ _ _ _
    refine ⟨_, _, _, by assumption, by assumption, fun F₂ N₂ => ?_⟩
    refine hret _ _ _ _ F₂ N₂ ⟨_, _, _, _, _, _, _, rfl, ?_, ?_, ?_, rfl⟩
    · exact Int.fmod_nonneg_of_pos _ (by omega)
    · exact Int.fmod_lt_of_pos _ (by omega)
    · exact ⟨Int.fdiv_nonneg h0 (by omega), h1, h1'⟩
  · refine PyProof.Rows.mul_int ?_ (hm := ?_)
    rotate_left
    · have e : [s0, ([s0, s1].getD (Int.toNat 1) 0 * 39373 + 7).fmod 2147483647].getD (Int.toNat 1) 0 = (s1 * 39373 + 7) % 2147483647 := Int.fmod_eq_emod_of_nonneg _ (by decide)
      rw [e]
      exact PySem.IntMulOk.of_left (PySem.intBits_le_64 (by omega) (by omega))
    · k_steps
      show LeaveS _ _ _ _ _ _ _ _
      refine ⟨_, _, _, by assumption, by assumption, fun F₂ N₂ => ?_⟩
      refine hret _ _ _ _ F₂ N₂ ⟨_, _, _, _, _, _, _, rfl, ?_, ?_, ?_, rfl⟩
      · exact Int.fmod_nonneg_of_pos _ (by omega)
      · exact Int.fmod_lt_of_pos _ (by omega)
      · exact ⟨h0, Int.fmod_nonneg_of_pos _ (by decide), Int.fmod_lt_of_pos _ (by decide)⟩

noncomputable abbrev srcO (s0 : Int) (t0 : Tok) (s1 : Int) (t1 : Tok) (n : Nat) : Obj := listOf [Value.int s0 t0, .int s1 t1].toArray n

theorem take_use {w : World} {src : Addr} {s0 s1 : Int} {t0 t1 : Tok} {n : Nat} {top : Int} {tt : Tok} {g : Obj → List (Addr × Obj)}
    {mean : ExcName → Option Value} {mg mb : Str → Option Value} {dp un : Nat} {gd : Option (List Code)} {cn : Str} {cs : Scope} {a : Addr} {ccd : Value} {cl : List (Str × Addr)} {outer : List Env} {A₀ : Around} {base h₀ : Heap} {L : Addr} {m : Str → Option Value} {news : List (Addr × Obj)} {s : Shared}
    {Q E : Value → Shared → Prop}
    (B : Below A₀ base outer h₀) (F : Fr h₀ L s.heap m) (X : (hd.heap_1 w.params).In h₀) (N : News h₀ L s.heap news) (T : Top topV (looseW topV [Str.ofString "ORDER_8"]) mean mg mb h₀) (hk : cs.kind = .function)
    (U : UpdF src (srcO s0 t0 s1 t1 n) news g) (ok : SrcOk s0 s1) (ht : 1 ≤ top) (ht' : top < 1000) (hd : dp + 4 < recursionLimit) (hu : un + 40 < cLine)
    (ret : ∀ r t s0' t0' s1' t1' n' h' tk', 0 ≤ r → r < top → SrcOk s0' s1' → Fr h₀ L h' m → News h₀ L h' (g (srcO s0' t0' s1' t1' n')) → Q (.int r t) { s with heap := h', toks := tk' }) :
    wpAny (model PySem.Challenge.rw_ok0138_01.row.prog w) (ktrTop dp un gd cn cs L a ccd cl outer) (call (.ref 435) [.ref src, .int top tt]) Q E s := by
  obtain ⟨pre, post, rfl, hg, h1, h2⟩ := U.split
  have hdis : ∀ p ∈ pre ++ post, ∀ q ∈ [(src, listOf [Value.int s0 t0, .int s1 t1].toArray n)], p.1 ≠ q.1 := by
    intro p hp q hq
    rw [List.mem_singleton.mp hq]
    rcases List.mem_append.mp hp with hp | hp
    · exact h1 p hp
    · exact h2 p hp
  have N1 : News h₀ L s.heap ([(src, listOf [Value.int s0 t0, .int s1 t1].toArray n)] ++ (pre ++ post)) := fun p hp => N p (by
    rcases List.mem_append.mp hp with hp | hp
    · rw [List.mem_singleton.mp hp]; simp
    · rcases List.mem_append.mp hp with hp | hp
      · simp [hp]
      · simp [hp])
  refine take_meet w src s0 s1 t0 t1 n (pre ++ post) top tt hdis ok.1 ok.2.1 ok.2.2 ht ht' mean mg mb dp un gd cn cs a ccd cl outer A₀ base h₀ L m s Q E B F X N1 T hk hd hu ?_
  rintro v h' tk' news' F' N' ⟨r, t, s0', t0', s1', t1', n', rfl, hr0, hr1, hs, rfl⟩
  refine ret r t s0' t0' s1' t1' n' h' tk' hr0 hr1 hs F' fun p hp => N' p ?_
  rw [hg] at hp
  rcases List.mem_append.mp hp with hp | hp
  · simp [hp]
  · rcases List.mem_cons.mp hp with rfl | hp
    · simp
    · simp [hp]

theorem item_any {prog : Program} {w : World} {A : Around} {E : Value → Shared → Prop} {s : Shared} {value slice : PySem.Expr} {l : Addr} {vs : List Value} {k : Int} {u : Tok} {Q : Value → Shared → Prop} (hl : s.heap.IsList l vs.toArray) (h0 : 0 ≤ k) (h1 : k < (vs.length : Int)) (hf : k < 2 ^ 63)
    (h : ∀ v ∈ vs, Q v s) (hs : subscripted slice false (.ref l) (.int k u) = operate [.ref l, .int k u] (getItem (.ref l) (.int k u)) := by with_unfolding_all rfl) :
    wpAny (model prog w) A (subscriptTail value slice (.ref l) (.int k u)) Q E s := by
  have hlt : k.toNat < vs.length := by omega
  exact tail_any hl.typeIs slot_list_getitem.lookup (wpAny_getItem_list hl h0 hf (by simpa using List.getElem?_eq_getElem hlt) (h _ (List.getElem_mem hlt))) hs
theorem news_isList {h₀ h : Heap} {L l : Addr} {news : List (Addr × Obj)} {vs : Array Value} {n : Nat} (N : News h₀ L h news) (hm : (l, listOf vs n) ∈ news) : h.IsList l vs := ⟨_, (N _ hm).1, rfl, n, rfl⟩

theorem len_base {prog : Program} {w : World} {A : Around} {E : Value → Shared → Prop} {s : Shared} {h₀ : Heap} {L l : Addr} {m : Str → Option Value} {vs : List Value} {Q : Value → Shared → Prop} (F : Fr h₀ L s.heap m) (hl : h₀.IsList l vs.toArray) (hfit : (vs.length : Int) < 2 ^ 63)
    (h : Q (.int (vs.length : Int) (s.toks + 1)) { s with toks := s.toks + 1 + 1 }) : wpAny (model prog w) A (call (.builtin "len") [.ref l]) Q E s :=
  PyProof.Rows.len_list (hl.at fun o e => F.keep l o e) (by simpa using hfit) (by simpa using h)
theorem len_any {prog : Program} {w : World} {A : Around} {E : Value → Shared → Prop} {s : Shared} {h₀ : Heap} {L l : Addr} {news : List (Addr × Obj)} {vs : List Value} {n : Nat} {Q : Value → Shared → Prop} (N : News h₀ L s.heap news) (hm : (l, listOf vs.toArray n) ∈ news) (hfit : (vs.length : Int) < 2 ^ 63)
    (h : Q (.int (vs.length : Int) (s.toks + 1)) { s with toks := s.toks + 1 + 1 }) : wpAny (model prog w) A (call (.builtin "len") [.ref l]) Q E s :=
  PyProof.Rows.len_list (news_isList N hm) (by simpa using hfit) (by simpa using h)
end
local macro_rules | `(tactic| walk_at "exec Assign cons ListComp") => `(tactic| (k_here; lct_look; k_dflt (refine LCt.Assign_ListComp_T (F₀ := by k_asm) (by rfl) (by with_unfolding_all rfl) (by with_unfolding_all rfl) (by decide) (by rfl) (by decide) (by rfl) (by rfl) (by rfl) ?_)))
local macro_rules | `(tactic| walk_at "CompSrcT") => `(tactic| refine stop_of ?_)
local macro_rules | `(tactic| walk_at "call ref") => `(tactic| (k_here; k_dflt (refine' take_use ?k1 ?k2 ?k3 ?k4 ?k5 ?k6 ?kU ?k7 ?k8 ?k9 ?k10 ?k11 ?_; walk_at "m_k6"; (case kU => k_updF); (case k7 => assumption); (case k8 => omega); (case k9 => omega); (case k10 => ktr_room); (case k11 => ktr_units); k_whole; intro r' tr' s0' t0' s1' t1' n' h' tk' hr0' hr1' hs' F' N'; (try dsimp only at N'); (try k_fold))))

local macro_rules | `(tactic| walk_at "call builtin:len") => `(tactic| (k_here; (with_reducible show wpAny _ _ (call (Value.builtin "len") [Value.ref _]) _ _ _); k_dflt (first
  | (refine' len_any ?k1 ?k2 ?k3 ?_; (case k1 => k_asm); (case k2 => k_mem); (case k3 => omega); k_whole)
  | (refine' len_base ?k1 ?k2 ?k3 ?_; (case k1 => k_asm); (case k2 => assumption); (case k3 => omega); k_whole))))
local macro_rules | `(tactic| walk_at "subscriptTail Name Call ref int") => `(tactic| (k_here; k_dflt (refine' item_any ?k1 ?k2 ?k3 ?k4 ?_; (case k1 => first | exact news_isList (by k_asm) (by k_mem) | exact Heap.IsList.at (by assumption) (fun o e => Fr.keep (by assumption) _ o e)); (case k2 => assumption); (case k3 => omega); (case k4 => omega); k_whole; intro v' hv')))
local macro_rules | `(tactic| walk_at "call ref") => `(tactic| refine stop_ref (by decide) ?_)
section
/-- a scan, as far as the law looks at it -/
structure Sc where
  places : List Int
  start : Int
  stop : Int
  low : Int
noncomputable abbrev entS (P : Params) (x : String) (t : Tok) (v : Value) : DictEntry := ⟨PyData.keyHash P (Str.ofString x), .str (Str.ofString x) t, v⟩
noncomputable abbrev scanEs (P : Params) (k1 k2 k3 k4 k5 k6 k7 : Tok) (pl : Addr) (dc ac : Value) (st : Int) (tst : Tok) (en : Int) (ten : Tok) (hi : Value) (lo : Int) (tlo : Tok) : List DictEntry :=
  [entS P "places" k1 (.ref pl), entS P "dc_slots" k2 dc, entS P "ac_slots" k3 ac, entS P "start" k4 (.int st tst), entS P "end" k5 (.int en ten), entS P "high" k6 hi, entS P "low" k7 (.int lo tlo)]
/-- bounds that keep every size small -/
def ScOk (d : Sc) : Prop := d.places.length ≤ 3 ∧ 0 ≤ d.start ∧ d.start ≤ 100 ∧ -100 ≤ d.stop ∧ d.stop ≤ 100
/-- the objects that bear a scan, each told by `Has` -/
def ScanOn (P : Params) (Has : Addr → Obj → Prop) (v : Value) (d : Sc) : Prop :=
  ∃ x dx pl ys n k1 k2 k3 k4 k5 k6 k7 dc ac tst ten hi tlo, v = .ref x ∧ Has x (instObj 417 dx) ∧ Has dx (dictOf (scanEs P k1 k2 k3 k4 k5 k6 k7 pl dc ac d.start tst d.stop ten hi d.low tlo) 7) ∧ Has pl (listOf ys.toArray n) ∧ IntsAre ys d.places ∧ ScOk d
theorem ScanOn.mono {P : Params} {H H' : Addr → Obj → Prop} (hs : ∀ a o, H a o → H' a o) {v : Value} {d : Sc} (h : ScanOn P H v d) : ScanOn P H' v d := by
  obtain ⟨x, dx, pl, ys, n, k1, k2, k3, k4, k5, k6, k7, dc, ac, tst, ten, hi, tlo, e, h1, h2, h3, r⟩ := h
  exact ⟨x, dx, pl, ys, n, k1, k2, k3, k4, k5, k6, k7, dc, ac, tst, ten, hi, tlo, e, hs _ _ h1, hs _ _ h2, hs _ _ h3, r⟩
/-- a list of values that bear scans, item by item -/
inductive ScansOn (P : Params) (Has : Addr → Obj → Prop) : List Value → List Sc → Prop where
  | nil : ScansOn P Has [] []
  | cons {v : Value} {d : Sc} {vs : List Value} {ds : List Sc} : ScanOn P Has v d → ScansOn P Has vs ds → ScansOn P Has (v :: vs) (d :: ds)
theorem ScansOn.mono {P : Params} {H H' : Addr → Obj → Prop} (hs : ∀ a o, H a o → H' a o) {vs : List Value} {ds : List Sc} (h : ScansOn P H vs ds) : ScansOn P H' vs ds := by
  induction h with
  | nil => exact .nil
  | cons h1 _ ih => exact .cons (h1.mono hs) ih
theorem ScansOn.append {P : Params} {H : Addr → Obj → Prop} {vs ws : List Value} {ds es : List Sc} (h : ScansOn P H vs ds) (k : ScansOn P H ws es) : ScansOn P H (vs ++ ws) (ds ++ es) := by
  induction h with
  | nil => exact k
  | cons h1 _ ih => exact .cons h1 ih
theorem ScansOn.length {P : Params} {H : Addr → Obj → Prop} {vs : List Value} {ds : List Sc} (h : ScansOn P H vs ds) : vs.length = ds.length := by
  induction h with
  | nil => rfl
  | cons _ _ ih => simp [ih]
theorem ScansOn.get {P : Params} {H : Addr → Obj → Prop} {vs : List Value} {ds : List Sc} (h : ScansOn P H vs ds) : ∀ {i : Nat} {v : Value}, vs[i]? = some v → ∃ d, ds[i]? = some d ∧ ScanOn P H v d := by
  induction h with
  | nil => intro i v e; simp at e
  | cons h1 _ ih =>
    intro i v e
    cases i with
    | zero => simp at e; subst e; exact ⟨_, rfl, h1⟩
    | succ i => simpa using ih (by simpa using e)

/-- the end of a drawing: what is told of the new scan -/
theorem drawn_end {w : World} {g h : Heap} {L src x dx pl : Addr} {news : List (Addr × Obj)} {s0 s1 : Int} {t0 t1 : Tok} {n0 n : Nat} {ys : List Value} {ns : List Int} {k1 k2 k3 k4 k5 k6 k7 : Tok} {dc ac hi : Value} {st en lo : Int} {tst ten tlo : Tok} {P : Prop}
    (N : News g L h news) (hx : (x, instObj 417 dx) ∈ news) (hd : (dx, dictOf (scanEs w.params k1 k2 k3 k4 k5 k6 k7 pl dc ac st tst en ten hi lo tlo) 7) ∈ news) (hpl : (pl, listOf ys.toArray n) ∈ news) (hs : (src, srcO s0 t0 s1 t1 n0) ∈ news) (hi' : IntsAre ys ns)
    (ok : ns.length ≤ 3 ∧ 0 ≤ st ∧ st ≤ 100 ∧ -100 ≤ en ∧ en ≤ 100) (h1 : @LT.lt Nat _ src x) (h2 : @LT.lt Nat _ src dx) (h3 : @Ne Nat pl src)
    (k : ∀ tl d, ScanOn w.params (fun a o => (a, o) ∈ tl) (.ref x) d → (∀ p ∈ tl, p.1 ≠ src) → News g L h ((src, srcO s0 t0 s1 t1 n0) :: tl) → P) : P := by
  refine k [(x, instObj 417 dx), (dx, dictOf (scanEs w.params k1 k2 k3 k4 k5 k6 k7 pl dc ac st tst en ten hi lo tlo) 7), (pl, listOf ys.toArray n)] ⟨ns, st, en, lo⟩ ⟨x, dx, pl, ys, n, k1, k2, k3, k4, k5, k6, k7, dc, ac, tst, ten, hi, tlo, rfl, ?_, ?_, ?_, hi', ok⟩ ?_ ?_
  · exact .head _
  · exact .tail _ (.head _)
  · exact .tail _ (.tail _ (.head _))
  · intro p hp e
    simp only [List.mem_cons, List.not_mem_nil, or_false] at hp
    rcases hp with rfl | rfl | rfl
    · exact absurd e (Nat.ne_of_gt h1)
    · exact absurd e (Nat.ne_of_gt h2)
    · exact absurd e h3
  · intro p hp
    simp only [List.mem_cons, List.not_mem_nil, or_false] at hp
    rcases hp with rfl | rfl | rfl | rfl
    · exact N _ hs
    · exact N _ hx
    · exact N _ hd
    · exact N _ hpl
theorem inst_base {h₀ h : Heap} {L x C dx : Addr} {m : Str → Option Value} {es : List DictEntry} {n : Nat} (F : Fr h₀ L h m) (hx : h₀.get? x = some (instObj C dx)) (hd : h₀.get? dx = some (dictOf es n)) : InstAt h x (instObj C dx) C (some (dictOf es n)) :=
  ⟨F.keep _ _ hx, rfl, rfl, F.keep _ _ hd⟩
theorem news_sub {h₀ h : Heap} {L : Addr} {news news' : List (Addr × Obj)} (N : News h₀ L h news) (hs : ∀ p ∈ news', p ∈ news) : News h₀ L h news' := fun p hp => N p (hs p hp)

/-- `known` with the ranks from a, i of them, told by low -/
noncomputable def wrote (low a : Int) (i : Nat) (ks : List Int) : List Int := ks.mapIdx fun j k => if a ≤ (j : Int) ∧ (j : Int) < a + (i : Int) then low else k
/-- what one scan makes of what is known of a component -/
noncomputable def told1 (place many : Int) (ks : List Int) (d : Sc) : List Int :=
  if place ∈ d.places then wrote d.low d.start (min d.stop (many - 1) + 1 - d.start).toNat ks else ks
/-- what is known of a component -/
noncomputable def known (ds : List Sc) (place many : Int) : List Int := ds.foldl (told1 place many) (List.replicate many.toNat (-1))
theorem wrote_length (low a : Int) (i : Nat) (ks : List Int) : (wrote low a i ks).length = ks.length := by simp [wrote]
theorem told1_length (place many : Int) (ks : List Int) (d : Sc) : (told1 place many ks d).length = ks.length := by
  unfold told1
  split
  · exact wrote_length _ _ _ _
  · rfl
theorem foldl_told_length (place many : Int) (ds : List Sc) : ∀ ks : List Int, (ds.foldl (told1 place many) ks).length = ks.length := by
  induction ds with
  | nil => intro ks; rfl
  | cons d r ih => intro ks; rw [List.foldl_cons, ih, told1_length]
theorem known_length (ds : List Sc) (place many : Int) : (known ds place many).length = many.toNat := by
  unfold known
  rw [foldl_told_length, List.length_replicate]
theorem wrote_zero (low a : Int) (ks : List Int) : wrote low a 0 ks = ks := by
  apply List.ext_getElem
  · simp [wrote]
  · intro j h1 h2
    simp only [wrote, List.getElem_mapIdx]
    rw [if_neg (by omega)]
theorem wrote_succ (low a : Int) (i : Nat) (ks : List Int) (ha : 0 ≤ a) : (wrote low a i ks).set (a + (i : Int)).toNat low = wrote low a (i + 1) ks := by
  apply List.ext_getElem
  · simp [wrote]
  · intro j h1 h2
    simp only [wrote, List.getElem_set, List.getElem_mapIdx]
    by_cases e : (a + (i : Int)).toNat = j
    · rw [if_pos e, if_pos (by omega)]
    · rw [if_neg e]
      by_cases c : a ≤ (j : Int) ∧ (j : Int) < a + (i : Int)
      · rw [if_pos c, if_pos (by omega)]
      · rw [if_neg c, if_neg (by omega)]
theorem known_snoc (ds : List Sc) (place many : Int) (i : Nat) (d : Sc) (h : ds[i]? = some d) : known (ds.take (i + 1)) place many = told1 place many (known (ds.take i) place many) d := by
  unfold known
  rw [List.take_add_one, h]
  simp
theorem ints_rep (n : Nat) (t : Tok) : IntsAre (List.replicate n [Value.int (-1) t]).flatten (List.replicate n (-1)) := by
  induction n with
  | zero => exact .nil
  | succ n ih =>
    simp only [List.replicate_succ, List.flatten_cons, List.singleton_append]
    exact .cons _ _ ih
noncomputable abbrev frameEs (P : Params) (k1 k2 k3 k4 k5 k6 : Tok) (kd pr he wi : Value) (co : Addr) (n : Int) (tn : Tok) : List DictEntry :=
  [entS P "kind" k1 kd, entS P "precision" k2 pr, entS P "height" k3 he, entS P "width" k4 wi, entS P "components" k5 (.ref co), entS P "n" k6 (.int n tn)]
/-- the objects that bear a frame of so many components, its blocks' side n -/
def FrameOn (P : Params) (Has : Addr → Obj → Prop) (v : Value) (many : Nat) (n : Int) : Prop :=
  ∃ (x dx co : Addr) (cvs : List Value) (nc : Nat) (k1 k2 k3 k4 k5 k6 : Tok) (kd pr he wi : Value) (tn : Tok), v = .ref x ∧ Has x (instObj 382 dx) ∧ Has dx (dictOf (frameEs P k1 k2 k3 k4 k5 k6 kd pr he wi co n tn) 6) ∧ Has co (listOf cvs.toArray nc) ∧ cvs.length = many
theorem FrameOn.mono {P : Params} {H H' : Addr → Obj → Prop} (hs : ∀ a o, H a o → H' a o) {v : Value} {many : Nat} {n : Int} (h : FrameOn P H v many n) : FrameOn P H' v many n := by
  obtain ⟨x, dx, co, cvs, nc, k1, k2, k3, k4, k5, k6, kd, pr, he, wi, tn, e, h1, h2, h3, r⟩ := h
  exact ⟨x, dx, co, cvs, nc, k1, k2, k3, k4, k5, k6, kd, pr, he, wi, tn, e, hs _ _ h1, hs _ _ h2, hs _ _ h3, r⟩
/-- is all known whole -/
noncomputable def finB (ds : List Sc) (many : Nat) (nn : Int) : Bool := (List.range many).all fun p => (known ds (p : Int) nn).all fun k => k == 0
theorem finB_succ (ds : List Sc) (i : Nat) (nn : Int) : finB ds (i + 1) nn = (finB ds i nn && (known ds (i : Int) nn).all fun k => k == 0) := by
  unfold finB
  rw [List.range_succ, List.all_append]
  simp
theorem finB_false {ds : List Sc} {many i : Nat} {nn k : Int} (hi : i < many) (hk : k ∈ known ds (i : Int) nn) (h0 : k ≠ 0) : finB ds many nn = false := by
  cases h : finB ds many nn with
  | false => rfl
  | true =>
    unfold finB at h
    have h1 := List.all_eq_true.mp h i (List.mem_range.mpr hi)
    have h2 := List.all_eq_true.mp h1 k hk
    exact absurd (by simpa using h2) h0
/-- does a scan tell a coefficient -/
noncomputable def tells (place at' : Int) (d : Sc) : Bool := decide (place ∈ d.places) && (decide (d.start ≤ at') && decide (at' ≤ d.stop))
/-- the lows of the scans that tell a coefficient, in their order -/
noncomputable def lefts (ds : List Sc) (place at' : Int) : List Int := (ds.filter (tells place at')).map (·.low)
/-- what the law's own reckoning gives -/
def LeftV (l : List Int) (v : Value) : Prop := match l.getLast? with
  | some k => ∃ t, v = .int k t
  | none => v = .none
theorem lefts_snoc (ds : List Sc) (place at' : Int) (i : Nat) (d : Sc) (h : ds[i]? = some d) : lefts (ds.take (i + 1)) place at' = lefts (ds.take i) place at' ++ (if tells place at' d = true then [d.low] else []) := by
  unfold lefts
  rw [List.take_add_one, h, List.filter_append, List.map_append]
  congr 1
  simp only [Option.toList_some, List.filter_cons, List.filter_nil]
  by_cases c : tells place at' d = true
  · rw [if_pos c, if_pos c]; rfl
  · rw [if_neg c, if_neg c]; rfl
theorem tells_of {place at' : Int} {d : Sc} (h1 : (d.places.any fun x => x == place) = true) (h2 : d.start ≤ at') (h3 : at' ≤ d.stop) : tells place at' d = true := by
  unfold tells
  have e : place ∈ d.places := by rw [any_mem h1]
  simp [e, h2, h3]
theorem tells_not {place at' : Int} {d : Sc} (h : (d.places.any fun x => x == place) = false ∨ ¬ d.start ≤ at' ∨ ¬ at' ≤ d.stop) : tells place at' d = false := by
  unfold tells
  rcases h with h | h | h
  · have e : ¬ place ∈ d.places := by rw [any_mem h]; exact Bool.false_ne_true
    simp [e]
  · simp [h]
  · simp [h]
/-- is a coefficient told whole by the law's own reckoning -/
noncomputable def whole1 (ds : List Sc) (place at' : Int) : Bool := decide ((lefts ds place at').getLast? = some 0)
/-- all of the components below i, and of component i the ranks below j -/
noncomputable def wholeB (ds : List Sc) (nn i j : Nat) : Bool := ((List.range i).all fun p => (List.range nn).all fun a => whole1 ds (p : Int) (a : Int)) && (List.range j).all fun a => whole1 ds (i : Int) (a : Int)
theorem wholeB_next (ds : List Sc) (nn i : Nat) : wholeB ds nn (i + 1) 0 = wholeB ds nn i nn := by
  unfold wholeB
  rw [List.range_succ, List.all_append]
  simp
theorem wholeB_step (ds : List Sc) (nn i j : Nat) : wholeB ds nn i (j + 1) = (wholeB ds nn i j && whole1 ds (i : Int) (j : Int)) := by
  unfold wholeB
  rw [List.range_succ, List.all_append, Bool.and_assoc]
  simp
end
local macro_rules | `(tactic| k_inst) => `(tactic| (refine' inst_base ?F ?a ?b; (case F => k_asm); (case a => assumption); (case b => assumption)))
section
theorem lefts_append (ds : List Sc) (place at' : Int) (d : Sc) : lefts (ds ++ [d]) place at' = lefts ds place at' ++ (if tells place at' d = true then [d.low] else []) := by
  unfold lefts
  rw [List.filter_append, List.map_append]
  congr 1
  simp only [List.filter_cons, List.filter_nil]
  by_cases c : tells place at' d = true
  · rw [if_pos c, if_pos c]; rfl
  · rw [if_neg c, if_neg c]; rfl
theorem known_append (ds : List Sc) (place many : Int) (d : Sc) : known (ds ++ [d]) place many = told1 place many (known ds place many) d := by
  unfold known
  simp
theorem told1_at (place many : Int) (ks : List Int) (d : Sc) (j : Nat) (h : (j : Int) < many) (k : Int) (hk : ks[j]? = some k) :
    (told1 place many ks d)[j]? = some (if tells place (j : Int) d = true then d.low else k) := by
  unfold told1 tells
  by_cases c : place ∈ d.places
  · rw [if_pos c]
    unfold wrote
    rw [List.getElem?_mapIdx, hk]
    simp only [Option.map_some, decide_eq_true c, Bool.true_and, Bool.and_eq_true, decide_eq_true_eq]
    congr 1
    by_cases c2 : d.start ≤ (j : Int) ∧ (j : Int) ≤ d.stop
    · rw [if_pos c2, if_pos (by omega)]
    · rw [if_neg c2, if_neg (by omega)]
  · rw [if_neg c, hk]
    simp [c]

/-- The plain law, place by place: what stands in the list is the last low that told it. -/
theorem known_at (place many : Int) (j : Nat) (h : (j : Int) < many) : ∀ (ds : List Sc), (∀ d ∈ ds, 0 ≤ d.start) → (known ds place many)[j]? = some ((lefts ds place (j : Int)).getLast?.getD (-1)) := by
  intro ds
  generalize hn : ds.length = n
  induction n generalizing ds with
  | zero =>
    intro _
    rw [List.length_eq_zero_iff.mp hn]
    show (List.replicate many.toNat (-1 : Int))[j]? = some (-1)
    rw [List.getElem?_replicate, if_pos (by omega)]
  | succ n ih =>
    intro hs
    obtain ⟨r, d, rfl⟩ : ∃ r d, ds = r ++ [d] := ⟨ds.dropLast, ds.getLast (by intro e; rw [e] at hn; cases hn), (List.dropLast_concat_getLast _).symm⟩
    have hr : r.length = n := by simp at hn; exact hn
    have ih' := ih r hr fun d hd => hs d (List.mem_append_left _ hd)
    rw [known_append, told1_at place many _ d j h _ ih', lefts_append]
    congr 1
    by_cases c : tells place (j : Int) d = true
    · rw [if_pos c, if_pos c, List.getLast?_concat]; rfl
    · rw [if_neg c, if_neg c, List.append_nil]

theorem all_known (ds : List Sc) (place : Int) (nn : Nat) (hs : ∀ d ∈ ds, 0 ≤ d.start) : ((known ds place (nn : Int)).all fun k => k == 0) = (List.range nn).all fun a => whole1 ds place (a : Int) := by
  have hl : (known ds place (nn : Int)).length = nn := by rw [known_length]; omega
  rw [Bool.eq_iff_iff, List.all_eq_true, List.all_eq_true]
  constructor
  · intro h a ha
    have ha' := List.mem_range.mp ha
    have hk := known_at place (nn : Int) a (by omega) ds hs
    have h1 := h _ (List.mem_of_getElem? hk)
    unfold whole1
    cases hg : (lefts ds place (a : Int)).getLast? with
    | none => rw [hg] at h1; exact absurd h1 (by decide)
    | some k => rw [hg] at h1; simpa using h1
  · intro h k hk
    obtain ⟨j, hj, rfl⟩ := List.getElem_of_mem hk
    have hj' : j < nn := by omega
    have h1 := h j (List.mem_range.mpr hj')
    have h2 := known_at place (nn : Int) j (by omega) ds hs
    unfold whole1 at h1
    rw [of_decide_eq_true h1] at h2
    rw [List.getElem?_eq_getElem hj] at h2
    rw [Option.some.inj h2]
    rfl

/-- The plain law: the two reckonings agree. -/
theorem fin_whole (ds : List Sc) (many nn : Nat) (hs : ∀ d ∈ ds, 0 ≤ d.start) : finB ds many (nn : Int) = wholeB ds nn many 0 := by
  unfold finB wholeB
  simp only [List.range_zero, List.all_nil, Bool.and_true]
  congr 1
  funext p
  exact all_known ds (p : Int) nn hs

/-- The plain law: a last scan that tells all of all leaves nothing. -/
theorem fin_last (ds : List Sc) (d : Sc) (many nn : Nat) (hs : ∀ d ∈ ds, 0 ≤ d.start) (h0 : d.start = 0) (h1 : (nn : Int) - 1 ≤ d.stop) (hl : d.low = 0) (hp : ∀ p : Nat, p < many → (p : Int) ∈ d.places) : finB (ds ++ [d]) many (nn : Int) = true := by
  rw [fin_whole _ _ _ (by
    intro e he
    rcases List.mem_append.mp he with he | he
    · exact hs e he
    · rw [List.mem_singleton.mp he, h0]; exact Int.le_refl _)]
  unfold wholeB
  simp only [List.range_zero, List.all_nil, Bool.and_true]
  refine List.all_eq_true.mpr fun p hp' => List.all_eq_true.mpr fun a ha => ?_
  have hp2 := List.mem_range.mp hp'
  have ha2 := List.mem_range.mp ha
  unfold whole1
  have ht : tells (p : Int) (a : Int) d = true := by
    unfold tells
    have e1 : (p : Int) ∈ d.places := hp p hp2
    have e2 : d.start ≤ (a : Int) := by omega
    have e3 : (a : Int) ≤ d.stop := by omega
    simp [e1, e2, e3]
  rw [lefts_append, if_pos ht, List.getLast?_concat, hl]
  rfl
end
section
/-- one diagonal of a block, in its order -/
noncomputable def diagF (n t a c : Int) (j : Nat) : Int := (a + (j : Int) * c) * n + t - (a + (j : Int) * c)
noncomputable def lowOf (n t : Int) : Int := if t - n + 1 > 0 then t - n + 1 else 0
noncomputable def highOf (n t : Int) : Int := if n - 1 < t then n - 1 else t
noncomputable def diag (n t : Int) : List Int := if t.fmod 2 = 1 then (List.range (highOf n t + 1 - lowOf n t).toNat).map (diagF n t (lowOf n t) 1) else (List.range (highOf n t - (lowOf n t - 1)).toNat).map (diagF n t (highOf n t) (-1))
/-- the places of the first diagonals -/
noncomputable def zz (n : Int) : Nat → List Int
  | 0 => []
  | i + 1 => zz n i ++ diag n (i : Int)
/-- ranks: what stands after the first i places -/
noncomputable def rkP (nn : Nat) (ps : List Int) : Nat → List Int
  | 0 => List.replicate nn 0
  | i + 1 => (rkP nn ps i).set (ps.getD i 0).toNat (i : Int)
theorem rkP_length (nn : Nat) (ps : List Int) (i : Nat) : (rkP nn ps i).length = nn := by
  induction i with
  | zero => simp [rkP]
  | succ i ih => simp [rkP, ih]
theorem ints_rep0 (n : Nat) (t : Tok) : IntsAre (List.replicate n [Value.int 0 t]).flatten (List.replicate n 0) := by
  induction n with
  | zero => exact .nil
  | succ n ih =>
    simp only [List.replicate_succ, List.flatten_cons, List.singleton_append]
    exact .cons _ _ ih
noncomputable def nnOf (n : Int) : Nat := (n * n).toNat
/-- the ranks of the places of a block -/
noncomputable def rkL (n : Int) : List Int := rkP (nnOf n) (zz n (2 * n - 1).toNat) (zz n (2 * n - 1).toNat).length
theorem zz_ok : ∀ n : Nat, 1 ≤ n → n ≤ 4 → ∀ p ∈ zz (n : Int) (2 * (n : Int) - 1).toNat, 0 ≤ p ∧ p < (nnOf (n : Int) : Int) := by
  intro n h1 h4
  have h : n = 1 ∨ n = 2 ∨ n = 3 ∨ n = 4 := by omega
  rcases h with rfl | rfl | rfl | rfl <;> decide
/-- values that are ints or None, item by item -/
inductive OptAre : List Value → List (Option Int) → Prop where
  | nil : OptAre [] []
  | none {vs : List Value} {os : List (Option Int)} : OptAre vs os → OptAre (.none :: vs) (none :: os)
  | int {vs : List Value} {os : List (Option Int)} {k k' : Int} {t : Tok} : k = k' → OptAre vs os → OptAre (.int k t :: vs) (some k' :: os)
/-- what the patterns guess of a block of a side -/
noncomputable def guessL (n : Int) : List (Option Int) := if n = 1 then [none, none, none, none, none] else if n = 2 then [some 1, some 2, none, some 3, none] else [some 1, some 2, some 3, some 4, some 5]
end
section
set_option maxHeartbeats 8000000 in
theorem pool_meet (w : World) (l : Addr) (vs : List Value) (ns : List Int) (news : List (Addr × Obj)) (k : Int) (tk0 : Tok)
    (hi : IntsAre vs ns) (hlen : ns.length ≤ 63) (hk0 : 0 ≤ k) (hk2 : k ≤ 2) :
    MeetH w 428 [.ref l, .int k tk0] 4 60 news (fun h => h.IsList l vs.toArray)
      (fun v news' => ∃ D s0 t0 s1 t1 n, v = .ref D ∧ news' = (D, srcO s0 t0 s1 t1 n) :: news ∧ SrcOk s0 s1 ∧ ∀ p ∈ news, p.1 ≠ D) := by
  unfold MeetH
  k_fill
  intro mean mg mb dp un gd cn cs a ccd cl outer A₀ base h₀ L m s Q E B F X N T hk hpre hd hu hret
  refine wpAny_call ?_
  k_dflt (walk_at "m_enter0")
  (try (with_reducible show wpAny _ _ _ _ _ _))
  k_fold
  rename_i gA LA hA egA FA NA BA XA TA loA grA
  have hS : gA.IsList l vs.toArray := egA ▸ hpre
  clear hpre egA
  have hvl := IntsAre.length hi
  k_steps
  all_goals (
    show LeaveS _ _ _ _ _ _ _ _
    rename News gA LA _ _ => Nz
    refine ⟨_, _, _, by assumption, Nz, fun F₂ N₂ => ?_⟩
    refine hret _ _ _ _ F₂ N₂ ⟨_, _, _, _, _, _, rfl, rfl, ⟨?_, Int.fmod_nonneg_of_pos _ (by decide), Int.fmod_lt_of_pos _ (by decide)⟩, fun p hp e => ?_⟩
    · first | exact Int.le_refl _ | (split <;> omega)
    · have z1 := (Nz _ (.head _)).2.2
      have z2 := grA p hp
      dsimp only at z1
      rw [← e, z2] at z1
      cases z1)
end
section
local macro_rules | `(tactic| walk_at "exec Assign cons ListComp") => `(tactic| (k_here; k_dflt (refine Assign_ListComp_2u (_F₀ := by k_asm) (by rfl) (by with_unfolding_all rfl) (by with_unfolding_all rfl) (by decide) (by rfl) (by decide) (by rfl) (by rfl) (by decide) (by rfl) (by rfl) (by intro _; rfl) (by intro _ _; rfl) ?_)))
local macro_rules | `(tactic| walk_at "eval ListComp") => `(tactic| (k_here; lct_look; k_dflt (refine LCt.ListComp_T (F₀ := by k_asm) (by with_unfolding_all rfl) (by decide) (by rfl) (by decide) (by rfl) ?_)))
local macro_rules | `(tactic| walk_at "CompEnd") => `(tactic| refine stop_of ?_)

theorem news_isTup {h₀ h : Heap} {L a : Addr} {news : List (Addr × Obj)} {its : Array Value} {n : Nat} (N : News h₀ L h news) (hm : (a, ({ cls := .type "tuple", data := .seq its n } : Obj)) ∈ news) : h.IsTuple a its := ⟨_, (N _ hm).1, rfl, n, rfl⟩

/-- the list of the keys: what is so far -/
def AhInv (cs : List (Addr × Obj)) (n : Nat) (i j : Nat) (ys : List Value) (nw : List (Addr × Obj)) : Prop := ∃ tl, nw = cs ++ tl ∧ TupsAre tl ys (keysTo n i j) ∧ i ≤ n ∧ j ≤ n

theorem ah_turn {h₀ h' : Heap} {L T I2 C D I : Addr} {oT oI2 oC oD oI : Obj} {m : Str → Option Value} {s₁ : Shared} {tk : Nat} {cs tl : List (Addr × Obj)} {K : Value → List (Addr × Obj) → Prop}
    (F : Fr h₀ L h' m) (N : News h₀ L h' ((T, oT) :: (I2, oI2) :: (C, oC) :: (D, oD) :: (I, oI) :: (cs ++ tl))) (off : ∀ p ∈ cs ++ tl, p.1 ≠ I2 ∧ p.1 ≠ C ∧ p.1 ≠ D ∧ p.1 ≠ I) (ne : ((@Ne Nat I2 C) ∧ (@Ne Nat I2 D) ∧ (@Ne Nat C D) ∧ (@Ne Nat C I) ∧ (@Ne Nat D I) ∧ (@Ne Nat I2 I)))
    (l1 : @LT.lt Nat _ I2 T) (l2 : @LT.lt Nat _ C T) (l3 : @LT.lt Nat _ D T) (l4 : @LT.lt Nat _ I T) (hK : K (.ref T) (cs ++ (T, oT) :: tl)) :
    LCg.CompEnd h₀ L m s₁ I2 oI2 C oC D oD (fun _ => True) (fun z nw' => Next2 I oI (K z) nw') (.ref T) { s₁ with heap := h', toks := tk } := by
  refine LCg.CompEnd.intro F N ((I, oI) :: (cs ++ (T, oT) :: tl)) ?_ ?_ trivial ⟨_, rfl, ?_, hK⟩
  · intro p hp
    simp only [List.mem_cons, List.mem_append] at hp ⊢
    rcases hp with h | h | h | h | h | h | h <;> simp [h]
  · refine LCg.Off3.of fun p hp => ?_
    simp only [List.mem_cons, List.mem_append] at hp
    rcases hp with rfl | h | rfl | h
    · exact ⟨Ne.symm ne.2.2.2.2.2, Ne.symm ne.2.2.2.1, Ne.symm ne.2.2.2.2.1⟩
    · have z := off p (List.mem_append_left _ h); exact ⟨z.1, z.2.1, z.2.2.1⟩
    · exact ⟨Nat.ne_of_gt l1, Nat.ne_of_gt l2, Nat.ne_of_gt l3⟩
    · have z := off p (List.mem_append_right _ h); exact ⟨z.1, z.2.1, z.2.2.1⟩
  · intro p hp
    simp only [List.mem_cons, List.mem_append] at hp
    rcases hp with h | rfl | h
    · exact (off p (List.mem_append_left _ h)).2.2.2
    · exact Nat.ne_of_gt l4
    · exact (off p (List.mem_append_right _ h)).2.2.2

/-- the comprehension that counts: what is so far -/
def CoInv (nw₀ : List (Addr × Obj)) (ks : List (Int × Int)) (q : Int × Int) (i : Nat) (ys : List Value) (nw : List (Addr × Obj)) : Prop := nw = nw₀ ∧ ys.length = cntLt (ks.take i) q

set_option maxHeartbeats 1000000 in
theorem rank_meet (w : World) (news : List (Addr × Obj)) (n : Nat) (x y : Int) (tn tx ty : Tok) (hn : 1 ≤ n) (hn' : n ≤ 4) (hx : 0 ≤ x) (hx' : x ≤ 2) (hy : 0 ≤ y) (hy' : y ≤ 2) :
    MeetH w 462 [.int (n : Int) tn, .int x tx, .int y ty] 8 140 news (fun _ => True)
      (fun v news' => news' = news ∧ ((v = .none ∧ rankO n x y = none) ∨ ∃ k t, v = .int k t ∧ rankO n x y = some k)) := by
  unfold MeetH
  k_fill
  intro mean mg mb dp un gd cn cs a ccd cl outer A₀ base h₀ L m s Q E B F X N T hk hpre hd hu hret
  refine wpAny_call ?_
  k_dflt (walk_at "m_enter0C")
  (try (with_reducible show wpAny _ _ _ _ _ _))
  k_fold
  rename_i gA LA hA tkA egA FA BA XA TA loA grA oA oB oC dA dB dC NA
  clear hpre egA
  k_steps
  · show LeaveS _ _ _ _ _ _ _ _
    rename (n : Int) ≤ _ => hmx
    refine ⟨_, _, _, by assumption, (News.nil : News gA LA _ []), fun F₂ N₂ => ?_⟩
    refine hret _ _ _ _ F₂ N₂ ⟨by simp, .inl ⟨rfl, ?_⟩⟩
    unfold rankO
    rw [if_pos (by split at hmx <;> omega)]
  · rename ¬ (n : Int) ≤ _ => hmx
    have hmx' : (n : Int) > x ∧ (n : Int) > y := by split at hmx <;> omega
    refine ⟨_, _, _, _, n, n, _, AhInv [(LA + 1 + 1 + 1, oA), (LA + 1 + 1, oB), (LA + 1, oC)] n, rfl, by rfl, by k_asm, by k_asm, by assumption, by omega, by omega, ⟨[], (List.append_nil _).symm, .nil, Nat.zero_le _, Nat.zero_le _⟩, ?_, ?_, ?_⟩
    · rintro i j ys nw ⟨tl, -, h2, h3, h4⟩
      rw [h2.length, keysTo_len, PySem.sizeLine_eq]
      have : i * n ≤ 4 * 4 := Nat.mul_le_mul (by omega) hn'
      omega
    · rintro i ys nw hi ⟨tl, rfl, h2, h3, h4⟩
      exact ⟨tl, rfl, by rw [keysTo_next]; exact h2, hi, Nat.zero_le _⟩
    · rintro s₂ ⟨g2, rfl⟩
      refine ⟨⟨?_, ?_⟩, ?_⟩
      · rintro i t ys nw I oI C oC' D m₂ h9 tk9 E' hi hC9 hx9 F9 ⟨tl, rfl, h2, h3, h4⟩ N9
        simp only [List.cons_append, List.nil_append] at N9
        k_steps
        exact ⟨_, _, _, _, _, _, rfl, rfl, by assumption, by assumption, by assumption⟩
      · rintro i j t t' ys nw I2 oI2 I oI C oC' D m₂ h9 tk9 E' hi hj ⟨tl, rfl, h2, h3, h4⟩ hC9 hx9 hy9 F9 N9 off9 ne9
        simp only [List.cons_append, List.nil_append] at N9
        k_steps
        all_goals (
          unfold Stop
          rename News _ _ _ _ => Nz
          rename _ ∧ _ ∧ _ ∧ _ ∧ _ ∧ _ ∧ _ ∧ AllLt _ _ => hlt
          refine ah_turn (cs := [_, _, _]) (K := fun z nw' => AhInv [(LA + 1 + 1 + 1, oA), (LA + 1 + 1, oB), (LA + 1, oC)] n i (j + 1) (ys ++ [z]) nw') (by assumption) Nz off9 ne9 hlt.1 hlt.2.1 hlt.2.2.1 hlt.2.2.2.1 ⟨_, rfl, ?_, h3, hj⟩
          rw [keysTo_step]
          unfold keyOf
          first
            | (rename (((i : Nat) : Int) + (j : Int)).fmod 2 = 1 => hmod; rw [if_pos hmod])
            | (rename ¬ (((i : Nat) : Int) + (j : Int)).fmod 2 = 1 => hmod; rw [if_neg hmod])
            | (rename (((i : Nat) : Int) + (j : Int)).fmod 2 ≠ 1 => hmod; rw [if_neg hmod])
          exact (h2.mono fun p hp => .tail _ hp).snoc (.head _))
      · rintro ys nw ⟨tl, rfl, h2, h3, h4⟩
        have hlen : ys.length = n * n := by rw [h2.length, keysTo_len]; omega
        have hnn : n * n ≤ 4 * 4 := Nat.mul_le_mul hn' hn'
        unfold LCg.FinA
        intro DA h8 tk8 F8 N8 o8
        simp only [List.cons_append, List.nil_append] at N8
        k_steps
        unfold Stop
        refine LCt.CompSrcT.ledger (by rfl) (by k_asm) (by k_asm) (.head _) (by rw [PySem.sizeLine_eq]; simp only [List.size_toArray]; omega) ?_
        intro g9
        refine compT_inv (CoInv _ (keysTo n n 0) (keyOf x y)) ⟨rfl, rfl⟩ ?_ ?_
        · rintro i zs nw v J oJ C oC' D m₂ h9 tk9 E' hi9 ⟨rfl, hzs⟩ hv9 hC9 hx9 F9 N9 off9 ne9
          have hv9' : ys[i]? = some v := by simpa using hv9
          obtain ⟨t, b, e, tb, te, nt, rfl, hki, hmt⟩ := h2.get hv9'
          have N9' := news_again N9 (.tail _ (.tail _ (.tail _ (.tail _ (.tail _ (.tail _ (.tail _ hmt)))))))
          clear N9
          k_steps
          all_goals (
            rename News _ _ _ _ => Nz
            refine' tup_lt ?k1 ?k2 ?k3 ?_
            case k1 => exact news_isTup Nz (.tail _ (.head _))
            case k2 => exact news_isTup Nz (.head _)
            case k3 => ktr_units
            rename _ ∧ _ ∧ _ ∧ _ ∧ _ ∧ _ ∧ _ ∧ _ ∧ AllLt _ _ => hlt
            have hq : keyOf x y = (x + y, if (x + y).fmod 2 = 1 then y else x) := rfl
            first
              | (rename (x + y).fmod 2 = 1 => hmod; rw [if_pos hmod] at hq)
              | (rename (x + y).fmod 2 ≠ 1 => hmod; rw [if_neg hmod] at hq)
            have hstep := cntLt_step (q := keyOf x y) hki
            rw [← hzs] at hstep
            dsimp only at hstep
            generalize hb : pairLt b e _ _ = bb
            rw [hq] at hstep
            dsimp only at hstep
            rw [hb] at hstep
            cases bb
            all_goals k_steps
            all_goals (
              unfold Stop
              have Nk := news_sub Nz (news' := (J, oJ) :: (C, oC') :: (D, LCg.lst zs) :: (DA, LCg.lst ys) :: (LA + 1 + 1 + 1, oA) :: (LA + 1 + 1, oB) :: (LA + 1, oC) :: tl) (fun p hp => .tail _ (.tail _ hp))
              refine LCg.CompEnd.intro (by assumption) Nk _ (fun p hp => hp) off9 (Or.inr ⟨_, .head _, rfl, _, rfl⟩) ⟨rfl, ?_⟩
              rw [hq, hstep]
              simp))
        · rintro zs nw ⟨rfl, hzs⟩
          have hzl : zs.length ≤ 16 := by
            have z1 : zs.length ≤ (keysTo n n 0).length := by
              rw [hzs]
              exact Nat.le_trans (List.length_filter_le _ _) (List.length_take_le' _ _)
            rw [keysTo_len] at z1
            omega
          rw [List.take_of_length_le (by rw [← h2.length]; simp)] at hzs
          k_steps
          refine ⟨_, _, _, by assumption, (News.nil : News gA LA _ []), fun F₂ N₂ => ?_⟩
          refine hret _ _ _ _ F₂ N₂ ⟨by simp, .inr ⟨_, _, rfl, ?_⟩⟩
          unfold rankO
          rw [if_neg (by omega), hzs]
end
section
local macro_rules | `(tactic| walk_at "exec For Name") => `(tactic| (k_here; (rename Fr _ _ _ _ => lF'); (with_unfolding_all refine' For_invVF lF' ?k1 ?k2 ?_; (case k1 => exact rfl); (case k2 => exact rfl); k_whole)))
local macro_rules | `(tactic| walk_at "exec For Name Name cons nil") => `(tactic| walk_at "exec For Name")
local macro_rules | `(tactic| walk_at "exec For Name Call cons nil") => `(tactic| walk_at "exec For Name")
local macro_rules | `(tactic| walk_at "pyIter ref") => `(tactic| ((with_reducible show wpAny _ _ (pyIter (Value.ref _)) (fun it s₂ => LoopAtV _ _ _ _ _ _ _ _ _ it s₂) _ _); refine stop_of ?_))
local macro_rules | `(tactic| walk_at "InvEndN") => `(tactic| refine stop_of ?_)
local macro_rules | `(tactic| k_all) => `(tactic| assumption)
section
variable {prog : Program} {w : World} {A : Around} {E : Value → Shared → Prop} {s : Shared} {env : Env} {h₀ : Heap} {x : Str} {body : List Stmt} {Q : Flow → Shared → Prop}

noncomputable abbrev rangeObj (a b c : Int) (t u v : Tok) : Obj := { cls := .type "range", dict := none, data := .fields #[.int a t, .int b u, .int c v], slots := #[] }

theorem range2_led {L : Addr} {m : Str → Option Value} {news : List (Addr × Obj)} {a b : Int} {t u : Tok} {Q : Value → Shared → Prop} (F : Fr h₀ L s.heap m) (N : News h₀ L s.heap news)
    (h : ∀ r h' tk' v, (∀ p ∈ news, p.1 < r) → Fr h₀ L h' m → News h₀ L h' ((r, rangeObj a b 1 t u v) :: news) → Q (.ref r) { s with heap := h', toks := tk' }) :
    wpAny (model prog w) A (call (.type "range") [.int a t, .int b u]) Q E s :=
  call_range_2 (h _ _ _ _ (fun p hp => Heap.lt_size (N p hp).1) (F.push _) (N.push F _))
theorem range3_led {L : Addr} {m : Str → Option Value} {news : List (Addr × Obj)} {a b : Int} {t u v : Tok} {Q : Value → Shared → Prop} (F : Fr h₀ L s.heap m) (N : News h₀ L s.heap news) (hs : -1000 ≤ b - a ∧ b - a ≤ 1000)
    (h : ∀ r h' tk', (∀ p ∈ news, p.1 < r) → Fr h₀ L h' m → News h₀ L h' ((r, rangeObj a b (-1) t u v) :: news) → Q (.ref r) { s with heap := h', toks := tk' }) :
    wpAny (model prog w) A (call (.type "range") [.int a t, .int b u, .int (-1) v]) Q E s :=
  call_range_3 (by decide) (h _ _ _ (fun p hp => Heap.lt_size (N p hp).1) (F.push _) (N.push F _)) (.inl (PyProof.noPylong_small (by omega)))

theorem rangeSize_down (a b : Int) : Builtin.Range.rangeSize a b (-1) = ((a - b).toNat : Int) := by
  unfold Builtin.Range.rangeSize
  rw [if_neg (by decide)]
  split
  · rw [show -(-1 : Int) = 1 from rfl, Int.ediv_one]; omega
  · omega
theorem small_down {a b : Int} (ha : -1000 ≤ a) (ha' : a ≤ 1000) (hb : -1000 ≤ b) (hb' : b ≤ 1000) : Builtin.Range.small a b (-1) = true := by
  unfold Builtin.Range.small
  rw [rangeSize_down]
  simp only [Builtin.Range.rangeFitsLong, Bool.and_eq_true, Bool.or_eq_true, decide_eq_true_eq, beq_iff_eq]
  refine ⟨⟨⟨⟨?_, ?_⟩, ?_⟩, ?_⟩, .inr ?_⟩
  · omega
  · omega
  · omega
  · omega
  · rw [if_neg (by decide)]; simp; omega

/-- rangeM with any step -/
theorem rangeS {r : Addr} {a₀ b₀ c₀ : Int} {t₀ u₀ v₀ : Tok} {n : Nat} {m₀ : Str → Option Value} {news : List (Addr × Obj)} (stored : List Str) (J : Nat → List (Addr × Obj) → Prop)
    (hh : A.handled = none) (hr : IsRange s.heap r a₀ b₀ c₀ t₀ u₀ v₀) (hsmall : Builtin.Range.small a₀ b₀ c₀ = true) (hn : Builtin.Range.rangeSize a₀ b₀ c₀ = (n : Int)) (F : Fr h₀ env.locals s.heap m₀) (N : News h₀ env.locals s.heap news) (hj : J 0 news)
    (turn : ∀ (i : Nat) t (u : Str → Option Value) nx h tk own, i < n → nx.map (·.1) = news.map (·.1) → OwnOff own (news.map (·.1)) → J i nx →
      Fr h₀ env.locals h (fun y => if y = x then some (.int (a₀ + (i : Int) * c₀) t) else if stored.contains y then u y else m₀ y) → News h₀ env.locals h (nx ++ own) →
      wpAny (model prog w) A (execs body env) (InvPostN h₀ env.locals (TurnEnd h₀ env.locals x stored m₀ (J (i + 1))) own (news.map (·.1)) { s with heap := h, toks := tk } Q) E { s with heap := h, toks := tk })
    (done : ∀ (u : Str → Option Value) nx h tk, nx.map (·.1) = news.map (·.1) → J n nx → Fr h₀ env.locals h (fun y => if y = x then u y else if stored.contains y then u y else m₀ y) → News h₀ env.locals h nx → Q .next { s with heap := h, toks := tk }) :
    wpAny (model prog w) A (pyIter (.ref r)) (fun it s₂ => LoopAtV prog w A h₀ env x body Q E it s₂) E s := by
  refine wpAny_pyIter_range hr hsmall ?_
  have W : Walks prog w A s.heap.objs.size [s.heap.objs.size] [s.heap.objs.size] n (fun i v => i < n ∧ ∃ t, v = .int (a₀ + i * c₀) t)
      (fun i h => IsRangeIter h s.heap.objs.size (a₀ + (i : Nat) * c₀) ((n : Int) - (i : Nat)) c₀) := (Walks.range hh _ a₀ c₀ n).bound
  refine loop_invN (fun i m nx => nx.map (·.1) = news.map (·.1) ∧ J i nx ∧ SameOff x stored m₀ m) W ?_ ?_ ?_ ?_ (by show IsRangeIter _ _ _ _ _; rw [hn]; simpa using Heap.get?_push_size _ rfl) (F.push _) (fun p hp => ⟨Heap.get?_push_of_some _ (N p hp).1, (N p hp).2⟩) ⟨rfl, hj, fun _ _ _ => rfl⟩ ?_ ?_
  · intro hm
    exact absurd F.ns.lt ((List.mem_singleton.mp hm) ▸ Nat.lt_irrefl _)
  · intro b hb
    rw [List.mem_singleton.mp hb]
    exact next_is_new F
  · intro p hp hI
    exact absurd (Heap.lt_size (N p hp).1) ((List.mem_singleton.mp hI) ▸ Nat.lt_irrefl _)
  · intro p hp hI
    exact absurd (Heap.lt_size (N p hp).1) ((List.mem_singleton.mp hI) ▸ Nat.lt_irrefl _)
  · rintro i v m₁ nx h tk own hi ⟨_, t, rfl⟩ hadr hoff ⟨_, hJ, hm⟩ F₁ N₁
    refine wpAny_mono (turn i t m₁ nx h tk own hi hadr hoff hJ (fr_in hm F₁) N₁) (fun f s₂ p => ?_) fun _ _ e => e
    have up : InvEndN h₀ env.locals (TurnEnd h₀ env.locals x stored m₀ (J (i + 1))) own (news.map (·.1)) { s with heap := h, toks := tk } s₂ →
        InvEndN h₀ env.locals (fun m nx => nx.map (·.1) = news.map (·.1) ∧ J (i + 1) nx ∧ SameOff x stored m₀ m) own (news.map (·.1)) { s with heap := h, toks := tk } s₂ := by
      rintro ⟨h', tk', m', news', nx', e', F', N', hn', ho', ha, hS⟩
      exact ⟨h', tk', m', news', nx', e', F', N', hn', ho', ha, ha, hS⟩
    cases f with
    | ret v => exact p
    | brk => exact p
    | next => exact up p
    | cont => exact up p
  · rintro m₁ nx h tk ⟨hadr, hJ, hm⟩ F₁ N₁
    exact done m₁ nx h tk hadr hJ (fr_out hm F₁) N₁

/-- what stands behind a turn that counts z up -/
def Count (x z : Str) (m₀ : Str → Option Value) (J : Nat → List (Addr × Obj) → Prop) (i : Nat) (m : Str → Option Value) (nx : List (Addr × Obj)) : Prop := J i nx ∧ (∃ t, m z = some (.int (i : Int) t)) ∧ ∀ y, y ≠ x → y ≠ z → m y = m₀ y

/-- a loop over a made tuple that counts one name up from nought -/
theorem tupC {l : Addr} {vs : List Value} {m₀ : Str → Option Value} {news : List (Addr × Obj)} (z : Str) (J : Nat → List (Addr × Obj) → Prop)
    (hh : A.handled = none) (hls : s.heap.IsTuple l vs.toArray) (hlL : l ≠ env.locals) (hln : ∀ q ∈ news, q.1 ≠ l) (F : Fr h₀ env.locals s.heap m₀) (N : News h₀ env.locals s.heap news) (hj : J 0 news) (hz : ∃ t, m₀ z = some (.int 0 t)) (hxz : x ≠ z)
    (turn : ∀ (i : Nat) v t nx h tk own, vs[i]? = some v → nx.map (·.1) = news.map (·.1) → OwnOff own (news.map (·.1)) → J i nx →
      Fr h₀ env.locals h (fun y => if y = x then some v else if y = z then some (.int (i : Int) t) else m₀ y) → News h₀ env.locals h (nx ++ own) →
      wpAny (model prog w) A (execs body env) (InvPostN h₀ env.locals (Count x z m₀ J (i + 1)) own (news.map (·.1)) { s with heap := h, toks := tk } Q) E { s with heap := h, toks := tk })
    (done : ∀ (u : Str → Option Value) t nx h tk, nx.map (·.1) = news.map (·.1) → J vs.length nx → Fr h₀ env.locals h (fun y => if y = x then u y else if y = z then some (.int (vs.length : Int) t) else m₀ y) → News h₀ env.locals h nx → Q .next { s with heap := h, toks := tk }) :
    wpAny (model prog w) A (pyIter (.ref l)) (fun it s₂ => LoopAtV prog w A h₀ env x body Q E it s₂) E s := by
  obtain ⟨ol, hol, _⟩ := id hls
  have hne : l ≠ s.heap.objs.size := Nat.ne_of_lt (Heap.lt_size hol)
  refine wpAny_pyIter_tuple hls ?_
  have W := Walks.tuple (prog := prog) (w := w) hh s.heap.objs.size l hne vs.toArray
  have hlen : vs.toArray.size = vs.length := by simp
  rw [hlen] at W
  have emap : ∀ (m₁ : Str → Option Value) (v : Option Value) (i : Nat) t, m₁ z = some (.int (i : Int) t) → (∀ y, y ≠ x → y ≠ z → m₁ y = m₀ y) →
      (fun y => if y = x then v else if y = z then some (Value.int (i : Int) t) else m₀ y) = fun y => if y = x then v else m₁ y := by
    intro m₁ v i t h1 h2
    funext y
    by_cases e1 : y = x
    · simp [e1]
    · simp only [if_neg e1]
      by_cases e2 : y = z
      · subst e2; simp [h1]
      · simp only [if_neg e2]; exact (h2 y e1 e2).symm
  refine loop_invN (fun i m nx => nx.map (·.1) = news.map (·.1) ∧ Count x z m₀ J i m nx) W ?_ ?_ ?_ ?_ ⟨⟨_, Heap.get?_push_size _ rfl, rfl, rfl⟩, ⟨ol, Heap.get?_push_of_some _ hol, by assumption⟩⟩ (F.push _) (fun p hp => ⟨Heap.get?_push_of_some _ (N p hp).1, (N p hp).2⟩) ⟨rfl, hj, hz, fun _ _ _ => rfl⟩ ?_ ?_
  · intro hm
    rcases List.mem_cons.mp hm with e | hm
    · exact absurd F.ns.lt (e ▸ Nat.lt_irrefl _)
    · exact hlL (List.mem_singleton.mp hm).symm
  · intro b hb
    rw [List.mem_singleton.mp hb]
    exact next_is_new F
  · intro p hp hI
    exact absurd (Heap.lt_size (N p hp).1) ((List.mem_singleton.mp hI) ▸ Nat.lt_irrefl _)
  · intro p hp hI
    rcases List.mem_cons.mp hI with e | hI
    · exact absurd (Heap.lt_size (N p hp).1) (e ▸ Nat.lt_irrefl _)
    · exact hln p hp (List.mem_singleton.mp hI)
  · rintro i v m₁ nx h tk own hi hP hadr hoff ⟨_, hJ, ⟨t, hzt⟩, hm⟩ F₁ N₁
    have hP' : vs[i]? = some v := by simpa using hP
    rw [← emap m₁ (some v) i t hzt hm] at F₁
    refine wpAny_mono (turn i v t nx h tk own hP' hadr hoff hJ F₁ N₁) (fun f s₂ p => ?_) fun _ _ e => e
    have up : InvEndN h₀ env.locals (Count x z m₀ J (i + 1)) own (news.map (·.1)) { s with heap := h, toks := tk } s₂ →
        InvEndN h₀ env.locals (fun m nx => nx.map (·.1) = news.map (·.1) ∧ Count x z m₀ J (i + 1) m nx) own (news.map (·.1)) { s with heap := h, toks := tk } s₂ := by
      rintro ⟨h', tk', m', news', nx', e', F', N', hn', ho', ha, hS⟩
      exact ⟨h', tk', m', news', nx', e', F', N', hn', ho', ha, ha, hS⟩
    cases f with
    | ret v => exact p
    | brk => exact p
    | next => exact up p
    | cont => exact up p
  · rintro m₁ nx h tk ⟨hadr, hJ, ⟨t, hzt⟩, hm⟩ F₁ N₁
    refine done m₁ t nx h tk hadr hJ ?_ N₁
    have e : (fun y => if y = x then m₁ y else if y = z then some (Value.int (vs.length : Int) t) else m₀ y) = m₁ := by
      funext y
      by_cases e1 : y = x
      · simp [e1]
      · simp only [if_neg e1]
        by_cases e2 : y = z
        · subst e2; simp [hzt]
        · simp only [if_neg e2]; exact (hm y e1 e2).symm
    rw [e]; exact F₁
theorem count_end {z : Str} {m₀ : Str → Option Value} {J : Nat → List (Addr × Obj) → Prop} {L : Addr} {m' : Str → Option Value} {own news' nx : List (Addr × Obj)} {adr : List Addr} {s₁ : Shared} {h' : Heap} {tk i : Nat} {t : Tok} (F : Fr h₀ L h' m') (N : News h₀ L h' news')
    (hj : J i nx) (hz : m' z = some (.int (i : Int) t)) (ha : nx.map (·.1) = adr) (hn : ∀ p ∈ nx, p ∈ news') (ho : ∀ p ∈ own, p ∈ news') (hm : ∀ y, y ≠ x → y ≠ z → m' y = m₀ y) : InvEndN h₀ L (Count x z m₀ J i) own adr s₁ { s₁ with heap := h', toks := tk } :=
  InvEndN.intro F N ⟨hj, ⟨t, hz⟩, hm⟩ ha hn ho
end
theorem range1_own {prog : Program} {w : World} {A : Around} {E : Value → Shared → Prop} {s : Shared} {h₀ : Heap} {L : Addr} {m : Str → Option Value} {news : List (Addr × Obj)} {a : Int} {t : Tok} {Q : Value → Shared → Prop} (F : Fr h₀ L s.heap m) (N : News h₀ L s.heap news)
    (h : ∀ h' tk t₁ u₁ v₁, IsRange h' s.heap.objs.size 0 a 1 t₁ u₁ v₁ → Fr h₀ L h' m → News h₀ L h' news → (∀ b o, s.heap.get? b = some o → h'.get? b = some o) → Q (.ref s.heap.objs.size) { s with heap := h', toks := tk }) :
    wpAny (model prog w) A (call (.type "range") [.int a t]) Q E s :=
  call_range_1 (h _ _ _ _ _ (IsRange.new ..) (F.push _) (fun p hq => ⟨Heap.get?_push_of_some _ (N p hq).1, (N p hq).2⟩) fun _ _ e => Heap.get?_push_of_some _ e)
theorem count_led {x : Str} {h₀ : Heap} {z : Str} {m₀ : Str → Option Value} {J : Nat → List (Addr × Obj) → Prop} {L l : Addr} {o : Obj} {m' : Str → Option Value} {own own' : List (Addr × Obj)} {adr : List Addr} {s₁ : Shared} {h' : Heap} {tk i : Nat} {t : Tok} (F : Fr h₀ L h' m') (N : News h₀ L h' ((l, o) :: (own' ++ own)))
    (hj : J i ((l, o) :: own')) (hz : m' z = some (.int (i : Int) t)) (ha : ((l, o) :: own').map (·.1) = adr) (hm : ∀ y, y ≠ x → y ≠ z → m' y = m₀ y) : InvEndN h₀ L (Count x z m₀ J i) own adr s₁ { s₁ with heap := h', toks := tk } :=
  count_end F N hj hz ha (fun p hp => by
    rcases List.mem_cons.mp hp with rfl | hp
    · exact .head _
    · exact .tail _ (List.mem_append_left _ hp)) (fun p hp => .tail _ (List.mem_append_right _ hp)) hm
local macro_rules | `(tactic| walk_at "call type:range") => `(tactic| (k_here; (with_reducible show wpAny _ _ (call (Value.type "range") [Value.int _ _]) _ _ _); k_dflt (refine' range1_own ?k1 ?k2 ?_; (case k1 => k_asm); (case k2 => k_asm); k_whole; intro h' tk' t' u' v' hr' F' N' kp')))
local macro_rules | `(tactic| walk_at "call type:range") => `(tactic| k_extra "m_range")
section
/-- the ledger between the diagonals -/
def ZgInv (D : Addr) (n : Int) (i : Nat) (nx : List (Addr × Obj)) : Prop := ∃ ks k, nx = [(D, listOf ks.toArray k)] ∧ IntsAre ks (zz n i) ∧ ks.length ≤ 8 * i
/-- the ledger along one diagonal -/
def DgInv (D : Addr) (own : List (Addr × Obj)) (n t a c : Int) (base : List Int) (b : Nat) (j : Nat) (nx : List (Addr × Obj)) : Prop :=
  ∃ ks k, nx = (D, listOf ks.toArray k) :: own ∧ IntsAre ks (base ++ (List.range j).map (diagF n t a c)) ∧ ks.length ≤ b + j

set_option maxHeartbeats 8000000 in
theorem zig_meet (w : World) (news : List (Addr × Obj)) (n : Int) (tn : Tok) (hn : 1 ≤ n) (hn' : n ≤ 4) :
    MeetH w 28 [.int n tn] 4 60 news (fun _ => True)
      (fun v news' => ∃ D ks k, v = .ref D ∧ news' = (D, { cls := .type "tuple", data := .seq ks.toArray k }) :: news ∧ IntsAre ks (zz n (2 * n - 1).toNat) ∧ ks.length ≤ 100 ∧ ∀ p ∈ news, p.1 ≠ D) := by
  unfold MeetH
  k_fill
  intro mean mg mb dp un gd cn cs a ccd cl outer A₀ base h₀ L m s Q E B F X N T hk hpre hd hu hret
  refine wpAny_call ?_
  k_dflt (walk_at "m_enter0")
  (try (with_reducible show wpAny _ _ _ _ _ _))
  k_fold
  rename_i gA LA hA egA FA NA BA XA TA loA grA
  clear hpre egA
  k_steps
  unfold Stop
  rename News _ _ _ _ => Nz
  refine rangeM (stored := [Str.ofString "low", Str.ofString "high", Str.ofString "rows", Str.ofString "y"]) (n := (2 * n - 1).toNat) (ZgInv _ n) (by rfl) (by assumption) (small_one (by omega) (by omega) (by omega) (by omega)) (by rw [rangeSize_nat]; omega) (by k_asm) Nz ⟨_, _, rfl, .nil, by simp⟩ ?_ ?_
  · rintro i ti u nx h9 tk9 own hi - hoff ⟨ks, k, rfl, hks, hlen⟩ F9 N9
    have e0 : (0 : Int) + (i : Int) = (i : Int) := Int.zero_add _
    rw [e0] at F9
    simp only [List.cons_append, List.nil_append] at N9
    have hDo : ∀ p ∈ own, p.1 ≠ _ := fun p hp => hoff p hp _ (.head _)
    k_with "m_range" => (refine' range2_led ?k1 ?k2 ?_; (case k1 => k_asm); (case k2 => k_asm); k_whole; intro r' h' tk' v' lr' F' N'; (try k_sweep))
    k_with "m_range" => (refine' range3_led ?k1 ?k2 ?k3 ?_; (case k1 => k_asm); (case k2 => k_asm); (case k3 => (constructor <;> (repeat' split) <;> omega)); k_whole; intro r' h' tk' lr' F' N'; (try k_sweep))
    k_steps
    · unfold Stop
      rename News _ _ _ _ => Nz
      rename Int.fmod _ _ = _ => hpar
      have hb2 : highOf n (i : Int) ≤ n - 1 ∧ 0 ≤ lowOf n (i : Int) ∧ -10 ≤ highOf n (i : Int) ∧ lowOf n (i : Int) ≤ 10 := by unfold highOf lowOf; (repeat' split) <;> omega
      have ez : zz n (i + 1) = zz n i ++ (List.range (highOf n (i : Int) + 1 - lowOf n (i : Int)).toNat).map (diagF n (i : Int) (lowOf n (i : Int)) 1) := by
        show zz n i ++ diag n (i : Int) = _
        unfold diag
        rw [if_pos hpar]
      refine rangeS (stored := []) (n := (highOf n (i : Int) + 1 - lowOf n (i : Int)).toNat) (DgInv _ own n (i : Int) (lowOf n (i : Int)) 1 (zz n i) ks.length) (by rfl) (Nz _ (.head _)).1 (small_one (a := lowOf n (i : Int)) (b := highOf n (i : Int) + 1) (by omega) (by omega) (by omega) (by omega)) (rangeSize_nat _ _) (by k_asm) (news_sub Nz fun p hp => .tail _ hp) ⟨_, _, rfl, by simpa using hks, Nat.le_refl _⟩ ?_ ?_
      · rintro j tj uj nx hj tkj ownj hjn - hoffj ⟨kj, kk, rfl, hkj, hlj⟩ Fj Nj
        simp only [List.cons_append] at Nj
        have hDj : ∀ p ∈ own ++ ownj, p.1 ≠ _ := fun p hp => (List.mem_append.mp hp).elim (hDo p) fun h => hoffj p h _ (.head _)
        k_steps
        unfold Stop
        rename News _ _ _ _ => Ne
        simp only [List.push_toArray] at Ne
        refine turn_led (by assumption) Ne ⟨_, _, rfl, ?_, by simp; omega⟩ rfl same_turn
        rw [List.range_succ, List.map_append, ← List.append_assoc]
        exact IntsAre.append hkj (.cons _ _ .nil)
      · rintro uj nx hj tkj - ⟨kj, kk, rfl, hkj, hlj⟩ Fj Nj
        k_steps
        unfold Stop
        refine turn_end (by assumption) (by assumption) ⟨kj, kk, rfl, by rw [ez]; exact hkj, by omega⟩ rfl ?_ ?_ (same_inner (same_set (same_set (same_set same_turn (by decide)) (by decide)) (by decide)) (by decide) (fun z h => by simp at h))
        · intro p hp
          rw [List.mem_singleton.mp hp]
          exact .head _
        · exact fun p hp => .tail _ hp
    · unfold Stop
      rename News _ _ _ _ => Nz
      rename ¬ Int.fmod _ _ = _ => hpar
      have hb2 : highOf n (i : Int) ≤ n - 1 ∧ 0 ≤ lowOf n (i : Int) ∧ -10 ≤ highOf n (i : Int) ∧ lowOf n (i : Int) ≤ 10 := by unfold highOf lowOf; (repeat' split) <;> omega
      have ez : zz n (i + 1) = zz n i ++ (List.range (highOf n (i : Int) - (lowOf n (i : Int) - 1)).toNat).map (diagF n (i : Int) (highOf n (i : Int)) (-1)) := by
        show zz n i ++ diag n (i : Int) = _
        unfold diag
        rw [if_neg hpar]
      refine rangeS (stored := []) (n := (highOf n (i : Int) - (lowOf n (i : Int) - 1)).toNat) (DgInv _ own n (i : Int) (highOf n (i : Int)) (-1) (zz n i) ks.length) (by rfl) (Nz _ (.head _)).1 (small_down (a := highOf n (i : Int)) (b := lowOf n (i : Int) - 1) (by omega) (by omega) (by omega) (by omega)) (rangeSize_down _ _) (by k_asm) (news_sub Nz fun p hp => .tail _ hp) ⟨_, _, rfl, by simpa using hks, Nat.le_refl _⟩ ?_ ?_
      · rintro j tj uj nx hj tkj ownj hjn - hoffj ⟨kj, kk, rfl, hkj, hlj⟩ Fj Nj
        simp only [List.cons_append] at Nj
        have hDj : ∀ p ∈ own ++ ownj, p.1 ≠ _ := fun p hp => (List.mem_append.mp hp).elim (hDo p) fun h => hoffj p h _ (.head _)
        k_steps
        unfold Stop
        rename News _ _ _ _ => Ne
        simp only [List.push_toArray] at Ne
        refine turn_led (by assumption) Ne ⟨_, _, rfl, ?_, by simp; omega⟩ rfl same_turn
        rw [List.range_succ, List.map_append, ← List.append_assoc]
        exact IntsAre.append hkj (.cons _ _ .nil)
      · rintro uj nx hj tkj - ⟨kj, kk, rfl, hkj, hlj⟩ Fj Nj
        k_steps
        unfold Stop
        refine turn_end (by assumption) (by assumption) ⟨kj, kk, rfl, by rw [ez]; exact hkj, by omega⟩ rfl ?_ ?_ (same_inner (same_set (same_set (same_set same_turn (by decide)) (by decide)) (by decide)) (by decide) (fun z h => by simp at h))
        · intro p hp
          rw [List.mem_singleton.mp hp]
          exact .head _
        · exact fun p hp => .tail _ hp
  · rintro u nx h9 tk9 - ⟨ks, k, rfl, hks, hlen⟩ F9 N9
    k_steps
    rename News _ _ _ _ => Nz
    refine ⟨_, _, _, by assumption, news_sub Nz (news' := [_]) (fun p hp => by rw [List.mem_singleton.mp hp]; exact .head _), fun F₂ N₂ => ?_⟩
    refine hret _ _ _ _ F₂ N₂ ⟨_, ks, _, rfl, rfl, hks, by omega, fun p hp e => ?_⟩
    have z1 := (Nz _ (.head _)).2.2
    have z2 := grA p hp
    dsimp only at z1
    rw [← e, z2] at z1
    cases z1
  k_with_none
end
section
theorem zig_use {w : World} {n : Int} {tn : Tok}
    {mean : ExcName → Option Value} {mg mb : Str → Option Value} {dp un : Nat} {gd : Option (List Code)} {cn : Str} {cs : Scope} {a : Addr} {ccd : Value} {cl : List (Str × Addr)} {outer : List Env} {A₀ : Around} {base h₀ : Heap} {L : Addr} {m : Str → Option Value} {news : List (Addr × Obj)} {s : Shared}
    {Q E : Value → Shared → Prop}
    (B : Below A₀ base outer h₀) (F : Fr h₀ L s.heap m) (X : (hd.heap_1 w.params).In h₀) (N : News h₀ L s.heap news) (T : Top topV (looseW topV [Str.ofString "ORDER_8"]) mean mg mb h₀) (hk : cs.kind = .function)
    (hn : 1 ≤ n) (hn' : n ≤ 4) (hd : dp + 4 < recursionLimit) (hu : un + 60 < cLine)
    (ret : ∀ D ks k h' tk', Fr h₀ L h' m → News h₀ L h' ((D, { cls := .type "tuple", data := .seq ks.toArray k }) :: news) → IntsAre ks (zz n (2 * n - 1).toNat) → (∀ p ∈ news, p.1 ≠ D) → Q (.ref D) { s with heap := h', toks := tk' }) :
    wpAny (model PySem.Challenge.rw_ok0138_01.row.prog w) (ktrTop dp un gd cn cs L a ccd cl outer) (call (.ref 28) [.int n tn]) Q E s := by
  refine zig_meet w news n tn hn hn' mean mg mb dp un gd cn cs a ccd cl outer A₀ base h₀ L m s Q E B F X N T hk trivial hd hu ?_
  rintro v h' tk' news' F' N' ⟨D, ks, k, rfl, rfl, h1, _, h2⟩
  exact ret D ks k h' tk' F' N' h1 h2


/-- the ledger between the places -/
def RnInv (D : Addr) (nn : Nat) (ps : List Int) (own : List (Addr × Obj)) (i : Nat) (nx : List (Addr × Obj)) : Prop := ∃ ks k, nx = (D, listOf ks.toArray k) :: own ∧ IntsAre ks (rkP nn ps i)

set_option maxHeartbeats 8000000 in
theorem ranks_meet (w : World) (news : List (Addr × Obj)) (n : Int) (tn : Tok) (hn : 1 ≤ n) (hn' : n ≤ 4) (hnn : n * n = (nnOf n : Int)) (hnn' : nnOf n ≤ 16) (hps : ∀ p ∈ zz n (2 * n - 1).toNat, 0 ≤ p ∧ p < (nnOf n : Int)) :
    MeetH w 260 [.int n tn] 12 100 news (fun _ => True)
      (fun v news' => ∃ D ks k, v = .ref D ∧ news' = (D, { cls := .type "tuple", data := .seq ks.toArray k }) :: news ∧ IntsAre ks (rkL n) ∧ ∀ p ∈ news, p.1 ≠ D) := by
  unfold MeetH
  k_fill
  intro mean mg mb dp un gd cn cs a ccd cl outer A₀ base h₀ L m s Q E B F X N T hk hpre hd hu hret
  refine wpAny_call ?_
  k_dflt (walk_at "m_enter0")
  (try (with_reducible show wpAny _ _ _ _ _ _))
  k_fold
  rename_i gA LA hA egA FA NA BA XA TA loA grA
  clear hpre egA
  k_steps
  · exfalso; omega
  · unfold Stop
    refine' zig_use ?k1 ?k2 ?k3 ?k4 ?k5 ?k6 ?k7 ?k8 ?k9 ?k10 ?_
    case k1 => k_asm
    case k2 => k_asm
    case k3 => k_asm
    case k4 => k_asm
    case k5 => k_asm
    case k6 => first | exact rfl | assumption
    case k7 => omega
    case k8 => omega
    case k9 => ktr_room
    case k10 => ktr_units
    intro D1 ks1 n1 h1 tk1 F1 N1 hki hkD
    (try k_fold)
    k_steps
    rename_i kF kN TcA kXA
    unfold Stop
    refine tupC (Str.ofString "rank") (RnInv _ (nnOf n) (zz n (2 * n - 1).toNat) []) (by rfl) ⟨_, (kN _ (.head _)).1, rfl, _, rfl⟩ (kN _ (.head _)).2.1 (news := [_]) (fun q hq => by rw [List.mem_singleton.mp hq]; exact hkD _ (.head _)) kF (news_sub kN fun p hp => by rw [List.mem_singleton.mp hp]; exact .tail _ (.head _)) ⟨_, _, rfl, ints_rep0 _ _⟩ ⟨_, rfl⟩ (by decide) ?_ ?_
    · rintro i v t nx h9 tk9 own hvi - hoff ⟨ks, k, rfl, hks⟩ F9 N9
      obtain ⟨p, tp, rfl, hp⟩ := IntsAre.at hki i v hvi
      obtain ⟨hp0, hp1⟩ := hps p (List.mem_of_getElem? hp)
      have hlen : ks.length = nnOf n := by rw [IntsAre.length hks, rkP_length]
      have hpd : (zz n (2 * n - 1).toNat).getD i 0 = p := by rw [List.getD_eq_getElem?_getD, hp]; rfl
      simp only [List.cons_append, List.nil_append] at N9
      have hDo : ∀ p ∈ own, p.1 ≠ _ := fun p hp => hoff p hp _ (.head _)
      k_steps
      unfold Stop
      rename News _ _ _ _ => Ne
      refine count_led (own' := []) (by assumption) Ne ⟨_, _, rfl, ?_⟩ rfl rfl (fun y h1 h2 => by simp only [if_neg h1, if_neg h2])
      show IntsAre _ ((rkP (nnOf n) (zz n (2 * n - 1).toNat) i).set ((zz n (2 * n - 1).toNat).getD i 0).toNat (i : Int))
      rw [hpd]
      assumption
    · rintro u t nx h9 tk9 - ⟨ks, k, rfl, hks⟩ F9 N9
      have hlen : ks.length = nnOf n := by rw [IntsAre.length hks, rkP_length]
      k_steps
      rename News _ _ _ _ => Nz
      refine ⟨_, _, _, by assumption, news_sub Nz (news' := [_]) (fun p hp => by rw [List.mem_singleton.mp hp]; exact .head _), fun F₂ N₂ => ?_⟩
      refine hret _ _ _ _ F₂ N₂ ⟨_, ks, _, rfl, rfl, by rw [IntsAre.length hki] at hks; exact hks, fun p hp e => ?_⟩
      have z1 := (Nz _ (.head _)).2.2
      have z2 := grA p hp
      dsimp only at z1
      rw [← e, z2] at z1
      cases z1
end
section
theorem ranks_use {w : World} {n : Int} {tn : Tok} {R : List Int}
    {mean : ExcName → Option Value} {mg mb : Str → Option Value} {dp un : Nat} {gd : Option (List Code)} {cn : Str} {cs : Scope} {a : Addr} {ccd : Value} {cl : List (Str × Addr)} {outer : List Env} {A₀ : Around} {base h₀ : Heap} {L : Addr} {m : Str → Option Value} {news : List (Addr × Obj)} {s : Shared}
    {Q E : Value → Shared → Prop}
    (B : Below A₀ base outer h₀) (F : Fr h₀ L s.heap m) (X : (hd.heap_1 w.params).In h₀) (N : News h₀ L s.heap news) (T : Top topV (looseW topV [Str.ofString "ORDER_8"]) mean mg mb h₀) (hk : cs.kind = .function)
    (hR : rkL n = R) (hn : 1 ≤ n) (hn' : n ≤ 4) (hd : dp + 12 < recursionLimit) (hu : un + 100 < cLine)
    (ret : ∀ D ks k h' tk', Fr h₀ L h' m → News h₀ L h' ((D, { cls := .type "tuple", data := .seq ks.toArray k }) :: news) → IntsAre ks R → (∀ p ∈ news, p.1 ≠ D) → Q (.ref D) { s with heap := h', toks := tk' }) :
    wpAny (model PySem.Challenge.rw_ok0138_01.row.prog w) (ktrTop dp un gd cn cs L a ccd cl outer) (call (.ref 260) [.int n tn]) Q E s := by
  obtain ⟨n', rfl⟩ : ∃ n' : Nat, n = (n' : Int) := ⟨n.toNat, by omega⟩
  have hsq : (n' : Int) * n' = (nnOf (n' : Int) : Int) := by
    have h : n' = 1 ∨ n' = 2 ∨ n' = 3 ∨ n' = 4 := by omega
    rcases h with rfl | rfl | rfl | rfl <;> decide
  have hsq' : nnOf (n' : Int) ≤ 16 := by
    have h : n' = 1 ∨ n' = 2 ∨ n' = 3 ∨ n' = 4 := by omega
    rcases h with rfl | rfl | rfl | rfl <;> decide
  refine ranks_meet w news n' tn hn hn' hsq hsq' (zz_ok n' (by omega) (by omega)) mean mg mb dp un gd cn cs a ccd cl outer A₀ base h₀ L m s Q E B F X N T hk trivial hd hu ?_
  rintro v h' tk' news' F' N' ⟨D, ks, k, rfl, rfl, h1, h2⟩
  exact ret D ks k h' tk' F' N' (hR ▸ h1) h2


section
variable {prog : Program} {w : World} {A : Around} {E : Value → Shared → Prop} {h₀ : Heap} {env : Env} {target : Expr} {body : List Stmt} {Q : Flow → Shared → Prop} {s : Shared}
theorem allObj_mono : ∀ {ws : List (Addr × String)} {k k' : List (Addr × Obj) → Prop}, (∀ its, k its → k' its) → AllObj ws k → AllObj ws k'
  | [], _, _, h, x => h _ x
  | _ :: _, _, _, h, x => fun o ho => allObj_mono (fun its => h _) (x o ho)
/-- one turn of a loop over written items, by what holds ahead of it and after it -/
theorem items_step {ws : List (Addr × String)} {keep : List (Addr × Obj)} {v : Value} {r : List Itm} {m : Str → Option Value} {news : List (Addr × Obj)} (J : Nat → (Str → Option Value) → List (Addr × Obj) → Prop) (i : Nat) (hJ : J i m news)
    (turn : ∀ m news, J i m news → ∀ h tk, Fr h₀ env.locals h m → AllObj ws (fun its => News h₀ env.locals h (its ++ news) →
      wpAny (model prog w) A (assign target env v) (fun _ s₂ => wpAny (model prog w) A (execs body env) (UnrPostW h₀ env.locals { s with heap := h, toks := tk } its (fun m' n' => SubL keep n' ∧ J (i + 1) m' n') Q) E s₂) E { s with heap := h, toks := tk }))
    (rest : ∀ m news, J (i + 1) m news → ItemsRest prog w A E h₀ env target body Q s ws keep r m news) : ItemsRest prog w A E h₀ env target body Q s ws keep (.val v :: r) m news :=
  ItemsRest.val fun h tk F => allObj_mono (fun its k N => wpAny_mono (k N) (fun _ s₂ x => wpAny_mono x (fun f s₃ y => by
    cases f with
    | ret v => exact y
    | brk => exact y
    | next => obtain ⟨h', tk', m', n', e, F', N', off, sub, j⟩ := y; exact ⟨h', tk', m', n', e, F', N', off, sub, rest _ _ j⟩
    | cont => obtain ⟨h', tk', m', n', e, F', N', off, sub, j⟩ := y; exact ⟨h', tk', m', n', e, F', N', off, sub, rest _ _ j⟩) fun _ _ e => e) fun _ _ e => e) (turn m news hJ h tk F)
end
theorem fr_off {x : Str} {stored : List Str} {m₀ m : Str → Option Value} {h₀ h : Heap} {L : Addr} (hm : SameOff x stored m₀ m) (F : Fr h₀ L h m) : Fr h₀ L h (fun y => if y = x then m y else if stored.contains y then m y else m₀ y) := by
  have e : (fun y => if y = x then m y else if stored.contains y then m y else m₀ y) = m := by
    funext y
    by_cases h1 : y = x
    · rw [if_pos h1]
    · rw [if_neg h1]
      cases h2 : stored.contains y with
      | true => rfl
      | false => exact (hm y h1 h2).symm
  rw [e]
  exact F
theorem same_off {x : Str} {stored : List Str} {m₀ u : Str → Option Value} : SameOff x stored m₀ (fun y => if y = x then u y else if stored.contains y then u y else m₀ y) := fun z h1 h2 => by
  simp only [if_neg h1, h2, Bool.false_eq_true, if_false]
theorem same_x {x : Str} {stored : List Str} {m₀ m : Str → Option Value} {v : Option Value} (h : SameOff x stored m₀ m) : SameOff x stored m₀ (fun z => if z = x then v else m z) := fun z h1 h2 => by
  simp only [if_neg h1]
  exact h z h1 h2
theorem OptAre.append {vs ws : List Value} {os ps : List (Option Int)} (h : OptAre vs os) (k : OptAre ws ps) : OptAre (vs ++ ws) (os ++ ps) := by
  induction h with
  | nil => exact k
  | none _ ih => exact .none ih
  | int e _ ih => exact .int e ih
theorem OptAre.length {vs : List Value} {os : List (Option Int)} (h : OptAre vs os) : vs.length = os.length := by
  induction h with
  | nil => rfl
  | none _ ih => simp [ih]
  | int _ _ ih => simp [ih]
/-- what is found so far, and the names that a turn does not set -/
def GuJ (n : Int) (D : Addr) (fx : List (Addr × Obj)) (m₀ : Str → Option Value) (i : Nat) (m : Str → Option Value) (news : List (Addr × Obj)) : Prop :=
  ∃ vs k, news = (D, listOf (List.toArray vs) k) :: fx ∧ OptAre vs ((guessL n).take i) ∧ SameOff (Str.ofString "across") [Str.ofString "down", Str.ofString "few", Str.ofString "many", Str.ofString "weights"] m₀ m
theorem gu_step {n : Int} {i : Nat} {vs : List Value} {v : Value} {g : Option Int} (h : OptAre vs ((guessL n).take i)) (hv : OptAre [v] [g]) (e : (guessL n)[i]? = some g) : OptAre (vs ++ [v]) ((guessL n).take (i + 1)) := by
  rw [List.take_add_one, e]
  exact h.append hv
theorem gu_at {n : Int} (h1 : 1 ≤ n) (h4 : n ≤ 4) :
    (guessL n)[0]? = some (if 1 < n then some ((rkL n).getD (0 * n + 1).toNat 0) else none) ∧ (guessL n)[1]? = some (if 1 < n then some ((rkL n).getD (1 * n + 0).toNat 0) else none) ∧ (guessL n)[2]? = some (if 2 < n then some ((rkL n).getD (2 * n + 0).toNat 0) else none) ∧
    (guessL n)[3]? = some (if 1 < n then some ((rkL n).getD (1 * n + 1).toNat 0) else none) ∧ (guessL n)[4]? = some (if 2 < n then some ((rkL n).getD (0 * n + 2).toNat 0) else none) ∧ (n ≤ 1 ∨ n + 1 < ((rkL n).length : Int)) ∧ (n ≤ 2 ∨ 2 * n < ((rkL n).length : Int)) ∧ (guessL n).length = 5 := by
  have h : n = 1 ∨ n = 2 ∨ n = 3 ∨ n = 4 := by omega
  rcases h with rfl | rfl | rfl | rfl <;> decide
theorem gu_len {n : Int} {i : Nat} {vs : List Value} (h : OptAre vs ((guessL n).take i)) (h5 : (guessL n).length = 5) : vs.length ≤ 5 := by
  rw [h.length, List.length_take, h5]
  exact Nat.min_le_right _ _
local macro_rules | `(tactic| walk_at "ItemsRest") => `(tactic| refine stop_of ?_)

set_option maxHeartbeats 8000000 in
theorem guess_meet (w : World) (news : List (Addr × Obj)) (n : Int) (tn : Tok) (hn : 1 ≤ n) (hn' : n ≤ 4) :
    MeetH w 285 [.int n tn] 20 160 news (fun _ => True)
      (fun v news' => ∃ D vs k, v = .ref D ∧ news' = (D, listOf vs.toArray k) :: news ∧ OptAre vs (guessL n) ∧ ∀ p ∈ news, p.1 ≠ D) := by
  unfold MeetH
  k_fill
  intro mean mg mb dp un gd cn cs a ccd cl outer A₀ base h₀ L m s Q E B F X N T hk hpre hd hu hret
  refine wpAny_call ?_
  k_dflt (walk_at "m_enter0")
  (try (with_reducible show wpAny _ _ _ _ _ _))
  k_fold
  rename_i gA LA hA egA FA NA BA XA TA loA grA
  clear hpre egA
  have hR : rkL n = rkL n := rfl
  obtain ⟨z0, z1, z2, z3, z4, l1, l2, l5⟩ := gu_at hn hn'
  k_steps
  unfold Stop
  refine' ranks_use ?k1 ?k2 ?k3 ?k4 ?k5 ?k6 ?kR ?k7 ?k8 ?k9 ?k10 ?_
  case k1 => k_asm
  case k2 => k_asm
  case k3 => k_asm
  case k4 => k_asm
  case k5 => k_asm
  case k6 => first | exact rfl | assumption
  case kR => exact hR
  case k7 => exact hn
  case k8 => exact hn'
  case k9 => ktr_room
  case k10 => ktr_units
  intro D1 ks1 kk1 h1 tk1 F1 N1 hki hkD
  (try k_fold)
  k_steps
  unfold Stop
  refine items_step (GuJ n _ _ _) 0 ⟨[], _, rfl, .nil, fun _ _ _ => rfl⟩ ?_ fun m1 n1 j1 => items_step (GuJ n _ _ _) 1 j1 ?_ fun m2 n2 j2 => items_step (GuJ n _ _ _) 2 j2 ?_ fun m3 n3 j3 => items_step (GuJ n _ _ _) 3 j3 ?_ fun m4 n4 j4 => items_step (GuJ n _ _ _) 4 j4 ?_ fun m5 n5 j5 => ?_
  · rintro m1 n1 ⟨vs, k, rfl, hvs, hm⟩ h tk F1
    have F1' := fr_off hm F1
    have hvl := gu_len hvs l5
    clear F1 z1 z2 z3 z4
    ktu_objs
    k_steps
    all_goals first
      | exact ⟨_, _, by rw [List.push_toArray], gu_step hvs (.none .nil) (z0.trans (by rw [if_neg (by omega)])), by repeat (first | exact same_off | refine same_set ?_ (by decide) | refine same_x ?_)⟩
      | exact ⟨_, _, by rw [List.push_toArray], gu_step hvs (.int rfl .nil) (z0.trans (by rw [if_pos (by omega)])), by repeat (first | exact same_off | refine same_set ?_ (by decide) | refine same_x ?_)⟩
  · rintro m1 n1 ⟨vs, k, rfl, hvs, hm⟩ h tk F1
    have F1' := fr_off hm F1
    have hvl := gu_len hvs l5
    clear F1 z0 z2 z3 z4
    ktu_objs
    k_steps
    all_goals first
      | exact ⟨_, _, by rw [List.push_toArray], gu_step hvs (.none .nil) (z1.trans (by rw [if_neg (by omega)])), by repeat (first | exact same_off | refine same_set ?_ (by decide) | refine same_x ?_)⟩
      | exact ⟨_, _, by rw [List.push_toArray], gu_step hvs (.int rfl .nil) (z1.trans (by rw [if_pos (by omega)])), by repeat (first | exact same_off | refine same_set ?_ (by decide) | refine same_x ?_)⟩
  · rintro m1 n1 ⟨vs, k, rfl, hvs, hm⟩ h tk F1
    have F1' := fr_off hm F1
    have hvl := gu_len hvs l5
    clear F1 z0 z1 z3 z4
    ktu_objs
    k_steps
    all_goals first
      | exact ⟨_, _, by rw [List.push_toArray], gu_step hvs (.none .nil) (z2.trans (by rw [if_neg (by omega)])), by repeat (first | exact same_off | refine same_set ?_ (by decide) | refine same_x ?_)⟩
      | exact ⟨_, _, by rw [List.push_toArray], gu_step hvs (.int rfl .nil) (z2.trans (by rw [if_pos (by omega)])), by repeat (first | exact same_off | refine same_set ?_ (by decide) | refine same_x ?_)⟩
  · rintro m1 n1 ⟨vs, k, rfl, hvs, hm⟩ h tk F1
    have F1' := fr_off hm F1
    have hvl := gu_len hvs l5
    clear F1 z0 z1 z2 z4
    ktu_objs
    k_steps
    all_goals first
      | exact ⟨_, _, by rw [List.push_toArray], gu_step hvs (.none .nil) (z3.trans (by rw [if_neg (by omega)])), by repeat (first | exact same_off | refine same_set ?_ (by decide) | refine same_x ?_)⟩
      | exact ⟨_, _, by rw [List.push_toArray], gu_step hvs (.int rfl .nil) (z3.trans (by rw [if_pos (by omega)])), by repeat (first | exact same_off | refine same_set ?_ (by decide) | refine same_x ?_)⟩
  · rintro m1 n1 ⟨vs, k, rfl, hvs, hm⟩ h tk F1
    have F1' := fr_off hm F1
    have hvl := gu_len hvs l5
    clear F1 z0 z1 z2 z3
    ktu_objs
    k_steps
    all_goals first
      | exact ⟨_, _, by rw [List.push_toArray], gu_step hvs (.none .nil) (z4.trans (by rw [if_neg (by omega)])), by repeat (first | exact same_off | refine same_set ?_ (by decide) | refine same_x ?_)⟩
      | exact ⟨_, _, by rw [List.push_toArray], gu_step hvs (.int rfl .nil) (z4.trans (by rw [if_pos (by omega)])), by repeat (first | exact same_off | refine same_set ?_ (by decide) | refine same_x ?_)⟩
  · obtain ⟨vs, k, rfl, hvs, hm⟩ := j5
    refine ItemsRest.zero fun h tk F1 N1 => ?_
    have F1' := fr_off hm F1
    have hvl := gu_len hvs l5
    clear F1 z0 z1 z2 z3 z4
    k_steps
    show LeaveS _ _ _ _ _ _ _ _
    rename News _ _ _ _ => Nz
    refine ⟨_, _, _, by assumption, news_sub Nz (news' := [_]) (fun p hp => by rw [List.mem_singleton.mp hp]; exact .head _), fun F₂ N₂ => ?_⟩
    refine hret _ _ _ _ F₂ N₂ ⟨_, vs, _, rfl, rfl, ?_, fun p hp e => ?_⟩
    · rw [← List.take_length (l := guessL n), l5]
      exact hvs
    · have z1 := (Nz _ (.head _)).2.2
      have z2 := grA p hp
      dsimp only at z1
      rw [← e, z2] at z1
      cases z1
end
end
section
set_option maxHeartbeats 8000000 in
theorem one_meet (w : World) (src th : Addr) (s0 s1 : Int) (t0 t1 : Tok) (n : Nat) (vs : List Value) (k : Nat) (rest : List (Addr × Obj))
    (hdis : ∀ p ∈ rest, ∀ q ∈ [(src, srcO s0 t0 s1 t1 n)], p.1 ≠ q.1) (hm : (th, listOf vs.toArray k) ∈ rest)
    (ok : SrcOk s0 s1) (hv : 1 ≤ vs.length) (hv' : vs.length < 1000) :
    Meet w 442 [.ref src, .ref th] 8 60 ([(src, srcO s0 t0 s1 t1 n)] ++ rest)
      (fun v news' => ∃ s0' t0' s1' t1' n', v ∈ vs ∧ SrcOk s0' s1' ∧ news' = (src, srcO s0' t0' s1' t1' n') :: rest) := by
  unfold Meet
  k_fill
  intro mean mg mb dp un gd cn cs a ccd cl outer A₀ base h₀ L m s Q E B F X N T hk hd hu hret
  refine wpAny_call ?_
  k_dflt (walk_at "m_enterS")
  k_fold
  rename_i gA LA hA FA NA BA XA TA loA grA
  have hth : gA.IsList th vs.toArray := ⟨_, grA _ hm, rfl, _, rfl⟩
  k_steps
  show LeaveS _ _ _ _ _ _ _ _
  refine ⟨_, _, _, by assumption, by assumption, fun F₂ N₂ => ?_⟩
  exact hret _ _ _ _ F₂ N₂ ⟨_, _, _, _, _, by assumption, by assumption, rfl⟩

theorem one_use {w : World} {src th : Addr} {s0 s1 : Int} {t0 t1 : Tok} {n k : Nat} {vs : List Value} {g : Obj → List (Addr × Obj)}
    {mean : ExcName → Option Value} {mg mb : Str → Option Value} {dp un : Nat} {gd : Option (List Code)} {cn : Str} {cs : Scope} {a : Addr} {ccd : Value} {cl : List (Str × Addr)} {outer : List Env} {A₀ : Around} {base h₀ : Heap} {L : Addr} {m : Str → Option Value} {news : List (Addr × Obj)} {s : Shared}
    {Q E : Value → Shared → Prop}
    (B : Below A₀ base outer h₀) (F : Fr h₀ L s.heap m) (X : (hd.heap_1 w.params).In h₀) (N : News h₀ L s.heap news) (T : Top topV (looseW topV [Str.ofString "ORDER_8"]) mean mg mb h₀) (hk : cs.kind = .function)
    (U : UpdF src (srcO s0 t0 s1 t1 n) news g) (hm : (th, listOf vs.toArray k) ∈ news) (hne : @Ne Nat th src) (ok : SrcOk s0 s1) (ht : 1 ≤ vs.length) (ht' : vs.length < 1000) (hd : dp + 8 < recursionLimit) (hu : un + 60 < cLine)
    (ret : ∀ v s0' t0' s1' t1' n' h' tk', v ∈ vs → SrcOk s0' s1' → Fr h₀ L h' m → News h₀ L h' (g (srcO s0' t0' s1' t1' n')) → Q v { s with heap := h', toks := tk' }) :
    wpAny (model PySem.Challenge.rw_ok0138_01.row.prog w) (ktrTop dp un gd cn cs L a ccd cl outer) (call (.ref 442) [.ref src, .ref th]) Q E s := by
  obtain ⟨pre, post, rfl, hg, h1, h2⟩ := U.split
  have hdis : ∀ p ∈ pre ++ post, ∀ q ∈ [(src, srcO s0 t0 s1 t1 n)], p.1 ≠ q.1 := by
    intro p hp q hq
    rw [List.mem_singleton.mp hq]
    rcases List.mem_append.mp hp with hp | hp
    · exact h1 p hp
    · exact h2 p hp
  have N1 : News h₀ L s.heap ([(src, srcO s0 t0 s1 t1 n)] ++ (pre ++ post)) := fun p hp => N p (by
    rcases List.mem_append.mp hp with hp | hp
    · rw [List.mem_singleton.mp hp]; simp
    · rcases List.mem_append.mp hp with hp | hp
      · simp [hp]
      · simp [hp])
  have hm' : (th, listOf vs.toArray k) ∈ pre ++ post := by
    rcases List.mem_append.mp hm with hm | hm
    · exact List.mem_append_left _ hm
    · rcases List.mem_cons.mp hm with e | hm
      · exact absurd (congrArg Prod.fst e) hne
      · exact List.mem_append_right _ hm
  refine one_meet w src th s0 s1 t0 t1 n vs k (pre ++ post) hdis hm' ok ht ht' mean mg mb dp un gd cn cs a ccd cl outer A₀ base h₀ L m s Q E B F X N1 T hk hd hu ?_
  rintro v h' tk' news' F' N' ⟨s0', t0', s1', t1', n', hv, hs, rfl⟩
  refine ret v s0' t0' s1' t1' n' h' tk' hv hs F' fun p hp => N' p ?_
  rw [hg] at hp
  rcases List.mem_append.mp hp with hp | hp
  · simp [hp]
  · rcases List.mem_cons.mp hp with rfl | hp
    · simp
    · simp [hp]
end
local macro_rules | `(tactic| walk_at "call ref") => `(tactic| (k_here; k_dflt (refine' one_use ?k1 ?k2 ?k3 ?k4 ?k5 ?k6 ?kU ?kM ?kN ?k7 ?k8 ?k9 ?k10 ?k11 ?_; walk_at "m_k6"; (case kU => k_updF); (case kM => k_mem); (case kN => k_ne); (case k7 => assumption); (case k8 => simp); (case k9 => simp); (case k10 => ktr_room); (case k11 => ktr_units); k_whole; intro v' s0' t0' s1' t1' n' h' tk' hv' hs' F' N'; (try dsimp only at N'); (first | (refine' ints_elim hv' ?ki ?_; (case ki => l_ints); intro k' u' e' hk'; subst e') | refine stop_of ?_); (try k_fold))))
section
/-- the comprehension of the drawn places: what is so far -/
def DrInv (c : Addr) (oc : Obj) (src : Addr) (many : Int) (i : Nat) (ys : List Value) (nw : List (Addr × Obj)) : Prop :=
  ∃ s0 t0 s1 t1 n0, SrcOk s0 s1 ∧ nw = [(c, oc), (src, srcO s0 t0 s1 t1 n0)] ∧ ∃ ns, IntsAre ys ns ∧ ys.length ≤ i ∧ ∀ k ∈ ns, 0 ≤ k ∧ k < many

local macro_rules | `(tactic| walk_at "execs cons") => `(tactic| ((rename Kept _ => kp9); (with_reducible show wpAny _ _ (execs (Stmt.Assign [Expr.Name (PySem.Str.ofString "last") _] _ _ :: _) _) _ _ _); refine stop_of ?_))
set_option maxHeartbeats 8000000 in
theorem drawn_meet (w : World) (src : Addr) (s0 s1 : Int) (t0 t1 : Tok) (n0 : Nat) (rest : List (Addr × Obj)) (many n : Int) (tm tn : Tok)
    (hdis : ∀ p ∈ rest, ∀ q ∈ [(src, srcO s0 t0 s1 t1 n0)], p.1 ≠ q.1)
    (ok : SrcOk s0 s1) (hm : 1 ≤ many) (hm' : many ≤ 3) (hn : 1 ≤ n) (hn' : n ≤ 4) (hnn : 1 ≤ n * n) (hnn' : n * n ≤ 16) :
    Meet w 447 [.ref src, .int many tm, .int n tn] 12 100 ([(src, srcO s0 t0 s1 t1 n0)] ++ rest)
      (fun v news' => ∃ tl d s0' t0' s1' t1' n', ScanOn w.params (fun a o => (a, o) ∈ tl) v d ∧ SrcOk s0' s1' ∧ news' = (src, srcO s0' t0' s1' t1' n') :: (tl ++ rest) ∧ (∀ p ∈ tl, p.1 ≠ src) ∧ ∀ p ∈ tl, ∀ q ∈ rest, p.1 ≠ q.1) := by
  unfold Meet
  k_fill
  intro mean mg mb dp un gd cn cs a ccd cl outer A₀ base h₀ L m s Q E B F X N T hk hd hu hret
  refine wpAny_call ?_
  k_dflt (walk_at "m_enterSC")
  (try (with_reducible show wpAny _ _ _ _ _ _))
  k_fold
  rename_i gA LA hA tkA FA BA XA TA loA grA oA dA NA
  have hlt := ltN (loA (src, srcO s0 t0 s1 t1 n0) (by simp))
  k_steps
  · unfold Stop
    refine LCt.CompSrcT.range (n := many.toNat) (by rfl) (by k_asm) (by k_asm) (by assumption) (small_n (by omega) (by omega)) (by rw [rangeSize_nat]; congr 1; omega) (by rw [PySem.sizeLine_eq]; omega) ?_
    intro g9
    refine compT_inv (DrInv (LA + 1) oA src many) ⟨s0, t0, s1, t1, n0, ok, rfl, [], .nil, Nat.le_refl _, fun _ h => nomatch h⟩ ?_ ?_
    · rintro i ys nw v J oJ C oC D m₂ h9 tk9 E' hi9 ⟨s0', t0', s1', t1', n0', ok', rfl, ns, hys, hly, hns⟩ ⟨t9, rfl⟩ hC9 hx9 F9 N9 off9 ne9
      have hi2 : 0 ≤ (0 : Int) + i ∧ (0 : Int) + i < many := by omega
      simp only [LCg.Off3, and_true] at off9
      obtain ⟨⟨o1, o2, o3⟩, o4, o5, o6⟩ := off9
      k_steps
      · refine ⟨_, _, _, _, _, by assumption, rfl, _, IntsAre.append hys (.cons _ _ .nil), by simp; omega, ?_⟩
        intro k hk
        rcases List.mem_append.mp hk with hk | hk
        · exact hns k hk
        · rw [List.mem_singleton.mp hk]; exact hi2
      · exact ⟨_, _, _, _, _, by assumption, rfl, _, hys, by omega, hns⟩
    · rintro ys nw ⟨s0', t0', s1', t1', n0', ok', rfl, ns, hys, hly, hns⟩
      have hA : @Ne Nat (LA + 1) src := by omega
      refine' cut_at (s := s) (fun mb h tk => ∃ D vs c ks s0 t0 s1 t1 n0, SrcOk s0 s1 ∧ IntsAre vs ks ∧ ks.length ≤ 3 ∧ @Ne Nat D src ∧ Fr gA LA h (fun y => if y = Str.ofString "some" then Option.some (Value.ref D) else mb y) ∧ News gA LA h [(D, listOf (List.toArray vs) c), (LA + 1, oA), (src, srcO s0 t0 s1 t1 n0)]) ?main ?pf
      case main =>
        intro key
        k_steps
        · unfold Stop
          rename Kept _ => key
          rename Fr gA LA _ _ => F9
          rename News _ _ _ _ => Nz
          rename SrcOk _ _ => hs9
          exact key.out _ _ ⟨_, _, _, _, _, _, _, _, _, hs9, .cons _ _ .nil, by simp, by k_ne, fr_dup F9, news_sub Nz fun p hp => by
            simp only [List.mem_cons, List.not_mem_nil, or_false] at hp
            rcases hp with rfl | rfl | rfl <;> k_mem⟩
        · unfold Stop
          rename Kept _ => key
          rename Fr gA LA _ _ => F9
          rename News _ _ _ _ => Nz
          have hlen := IntsAre.length hys
          exact key.out _ _ ⟨_, ys, _, ns, _, _, _, _, _, ok', hys, by omega, by k_ne, F9, news_sub Nz fun p hp => by
            simp only [List.mem_cons, List.not_mem_nil, or_false] at hp
            rcases hp with rfl | rfl | rfl <;> k_mem⟩
      case pf =>
        rintro h tk ⟨Ds, vs, c9, ks, s2, t2, s3, t3, n2, hs2, hvs, hkl, hDs, F9, N9⟩
        k_steps
        unfold Stop
        rename News _ _ _ _ => Nz
        rename _ ∈ _ => hvz
        refine tups_elim (fun t b e => @LT.lt Nat _ src t ∧ 0 ≤ b ∧ b ≤ 100 ∧ -100 ≤ e ∧ e ≤ 100) Nz hvz ?_ fun t b tb e te hvt hmt hbe => ?_
        · intro v hv
          simp only [List.mem_cons, List.not_mem_nil, or_false] at hv
          rcases hv with rfl | rfl | rfl | rfl
          all_goals exact ⟨_, _, _, _, _, rfl, by k_mem, by refine ⟨?_, ?_, ?_, ?_, ?_⟩ <;> omega⟩
        · subst hvt
          obtain ⟨hst, hb1, hb2, he1, he2⟩ := hbe
          have N2 := news_sub (news' := [(t, tupO [Value.int b tb, Value.int e te]), (Ds, listOf (List.toArray vs) c9), (LA + 1, oA), (src, srcO _ _ _ _ _)]) Nz fun p hp => by
            simp only [List.mem_cons, List.not_mem_nil, or_false] at hp
            rcases hp with rfl | rfl | rfl | rfl
            · exact hmt
            all_goals k_mem
          clear Nz hmt hvz
          k_steps
          rename News gA LA _ _ => Nz
          refine drawn_end (w := w) Nz (by k_mem) (by k_mem) (by k_mem) (by k_mem) hvs ⟨hkl, hb1, hb2, he1, he2⟩ (by omega) (by omega) (by omega) fun tl d hsc htl Ntl => ?_
          refine ⟨_, _, _, by assumption, Ntl, fun F₂ N₂ => ?_⟩
          refine hret _ _ _ _ F₂ N₂ ⟨tl, d, _, _, _, _, _, hsc, ?_, rfl, htl, ?_⟩
          · assumption
          intro p hp q hq e
          have z1 := (Ntl p (.tail _ hp)).2.2
          have z2 := grA q hq
          rw [e, z2] at z1
          cases z1
end
section
local macro_rules | `(tactic| walk_at "exec For Name") => `(tactic| (k_here; (rename Fr _ _ _ _ => lF'); (with_unfolding_all refine' For_invVF lF' ?k1 ?k2 ?_; (case k1 => exact rfl); (case k2 => exact rfl); k_whole)))
local macro_rules | `(tactic| walk_at "exec For Name Name cons nil") => `(tactic| walk_at "exec For Name")
local macro_rules | `(tactic| walk_at "exec For Name Call cons nil") => `(tactic| walk_at "exec For Name")
local macro_rules | `(tactic| walk_at "pyIter ref") => `(tactic| ((with_reducible show wpAny _ _ (pyIter (Value.ref _)) (fun it s₂ => LoopAtV _ _ _ _ _ _ _ _ _ it s₂) _ _); refine stop_of ?_))
local macro_rules | `(tactic| walk_at "InvEndN") => `(tactic| refine stop_of ?_)
local macro_rules | `(tactic| k_all) => `(tactic| assumption)
section
/-- the ledger between the turns over the scans -/
def KnInv (D : Addr) (ds : List Sc) (place many : Int) (i : Nat) (nx : List (Addr × Obj)) : Prop := ∃ ks n, nx = [(D, listOf ks.toArray n)] ∧ IntsAre ks (known (ds.take i) place many)
/-- the ledger between the turns over the ranks -/
def RkInv (D : Addr) (own : List (Addr × Obj)) (low a : Int) (base : List Int) (i : Nat) (nx : List (Addr × Obj)) : Prop := ∃ ks n, nx = (D, listOf ks.toArray n) :: own ∧ IntsAre ks (wrote low a i base)

set_option maxHeartbeats 8000000 in
theorem known_meet (w : World) (sa : Addr) (vs : List Value) (ds : List Sc) (news : List (Addr × Obj)) (place many : Int) (tp tm : Tok)
    (hl : ds.length ≤ 20) (hp : 0 ≤ place) (hp' : place ≤ 3) (hm : 1 ≤ many) (hm' : many ≤ 16) :
    MeetH w 278 [.ref sa, .int place tp, .int many tm] 4 40 news (fun h => h.IsList sa vs.toArray ∧ ScansOn w.params (fun a o => h.get? a = some o) vs ds)
      (fun v news' => ∃ D ks n, v = .ref D ∧ news' = (D, listOf ks.toArray n) :: news ∧ IntsAre ks (known ds place many) ∧ ∀ p ∈ news, p.1 ≠ D) := by
  unfold MeetH
  k_fill
  intro mean mg mb dp un gd cn cs a ccd cl outer A₀ base h₀ L m s Q E B F X N T hk hpre hd hu hret
  refine wpAny_call ?_
  k_dflt (walk_at "m_enter0")
  (try (with_reducible show wpAny _ _ _ _ _ _))
  k_fold
  rename_i gA LA hA egA FA NA BA XA TA loA grA
  have hS : gA.IsList sa vs.toArray := egA ▸ hpre.1
  have hV : ScansOn w.params (fun a o => gA.get? a = some o) vs ds := egA ▸ hpre.2
  clear hpre egA
  k_steps
  unfold Stop
  rename News gA LA _ _ => Nz
  refine baseM (stored := [Str.ofString "scan", Str.ofString "rank"]) (KnInv _ ds place many) (by rfl) hS (by k_asm) (news_sub Nz (by k_allIn)) ⟨_, _, rfl, ints_rep _ _⟩ ?_ ?_
  · rintro i v u nx h9 tk9 own hi - hoff ⟨ks, nk, rfl, hks⟩ F9 N9
    obtain ⟨d, hd', x, dx, pl, ys, n, k1, k2, k3, k4, k5, k6, k7, dc, ac, tst, ten, hi', tlo, rfl, hx, hdx, hpl, hys, hok⟩ := hV.get hi
    have hP : gA.IsList pl ys.toArray := ⟨_, hpl, rfl, _, rfl⟩
    have hsc : ScOk d := hok
    obtain ⟨ho1, ho2, ho3, ho4, ho5⟩ := hok
    have hlen : ks.length = many.toNat := by rw [IntsAre.length hks, known_length]
    have hnx := known_snoc ds place many i d hd'
    have hDo : ∀ p ∈ own, p.1 ≠ _ := fun p hp => hoff p hp _ (.head _)
    k_steps
    · unfold Stop
      refine rangeM (stored := []) (n := (min d.stop (many - 1) + 1 - d.start).toNat) (RkInv _ own d.low d.start (known (ds.take i) place many)) (by rfl) (by assumption) (small_one (by omega) (by omega) (by split <;> omega) (by split <;> omega)) (by rw [rangeSize_nat]; congr 2; split <;> omega) (by k_asm) (by k_asm) ⟨ks, nk, rfl, by rw [wrote_zero]; exact hks⟩ ?_ ?_
      · rintro j tj uj nx hj tkj ownj hjn - hoffj ⟨kj, nj, rfl, hkj⟩ Fj Nj
        have hlenj : kj.length = many.toNat := by rw [IntsAre.length hkj, wrote_length, known_length]
        simp only [List.cons_append, List.nil_append] at Nj
        have hDj : ∀ p ∈ own ++ ownj, p.1 ≠ _ := fun p hp => (List.mem_append.mp hp).elim (hDo p) fun h => hoffj p h _ (.head _)
        k_steps
        unfold Stop
        refine turn_end (by assumption) (by assumption) ⟨kj.set (d.start + (j : Int)).toNat (.int d.low tlo), nj, rfl, ?_⟩ rfl ?_ ?_ same_turn
        · rw [← wrote_succ _ _ _ _ ho2]; assumption
        · intro p hp
          rcases List.mem_cons.mp hp with rfl | hp
          · exact .head _
          · exact .tail _ (List.mem_append_left _ hp)
        · exact fun p hp => .tail _ (List.mem_append_right _ hp)
      · rintro uj nx hj tkj - ⟨kj, nj, rfl, hkj⟩ Fj Nj
        k_steps
        unfold Stop
        refine turn_end (by assumption) (by assumption) ⟨kj, nj, rfl, ?_⟩ rfl ?_ ?_ (same_inner same_turn (by decide) (fun z h => by simp at h))
        · rw [hnx]
          unfold told1
          rename (List.any _ _) = _ => hany
          rw [if_pos (by rw [any_mem hany])]
          exact hkj
        · intro p hp
          rw [List.mem_singleton.mp hp]
          exact .head _
        · exact fun p hp => .tail _ hp
    · unfold Stop
      refine turn_end (by assumption) (by assumption) ⟨ks, nk, rfl, ?_⟩ rfl ?_ ?_ same_turn
      · rw [hnx]
        unfold told1
        rename (List.any _ _) = _ => hany
        rw [if_neg (by rw [any_mem hany]; exact Bool.false_ne_true)]
        exact hks
      · intro p hp
        rw [List.mem_singleton.mp hp]
        exact .head _
      · exact fun p hp => .tail _ hp
  · rintro u nx h9 tk9 - ⟨ks, nk, rfl, hks⟩ F9 N9
    k_steps
    show LeaveS _ _ _ _ _ _ _ _
    refine ⟨_, _, _, by assumption, N9, fun F₂ N₂ => ?_⟩
    have e : ds.take vs.length = ds := List.take_of_length_le (by rw [hV.length]; exact Nat.le_refl _)
    rw [e] at hks
    refine hret _ _ _ _ F₂ N₂ ⟨_, ks, _, rfl, rfl, hks, fun p hp => ?_⟩
    intro e2
    have z1 := (N9 _ (.head _)).2.2
    have z2 := grA p hp
    dsimp only at z1
    rw [← e2, z2] at z1
    cases z1
end
section
theorem known_use {w : World} {sa : Addr} {vs : List Value} {ds : List Sc} {place many : Int} {tp tm : Tok}
    {mean : ExcName → Option Value} {mg mb : Str → Option Value} {dp un : Nat} {gd : Option (List Code)} {cn : Str} {cs : Scope} {a : Addr} {ccd : Value} {cl : List (Str × Addr)} {outer : List Env} {A₀ : Around} {base h₀ : Heap} {L : Addr} {m : Str → Option Value} {news : List (Addr × Obj)} {s : Shared}
    {Q E : Value → Shared → Prop}
    (B : Below A₀ base outer h₀) (F : Fr h₀ L s.heap m) (X : (hd.heap_1 w.params).In h₀) (N : News h₀ L s.heap news) (T : Top topV (looseW topV [Str.ofString "ORDER_8"]) mean mg mb h₀) (hk : cs.kind = .function)
    (hsa : h₀.IsList sa vs.toArray) (hvs : ScansOn w.params (fun a o => h₀.get? a = some o) vs ds) (hl : ds.length ≤ 20) (hp : 0 ≤ place) (hp' : place ≤ 3) (hm : 1 ≤ many) (hm' : many ≤ 16) (hd : dp + 4 < recursionLimit) (hu : un + 40 < cLine)
    (ret : ∀ D ks n h' tk', Fr h₀ L h' m → News h₀ L h' ((D, listOf ks.toArray n) :: news) → IntsAre ks (known ds place many) → (∀ p ∈ news, p.1 ≠ D) → Q (.ref D) { s with heap := h', toks := tk' }) :
    wpAny (model PySem.Challenge.rw_ok0138_01.row.prog w) (ktrTop dp un gd cn cs L a ccd cl outer) (call (.ref 278) [.ref sa, .int place tp, .int many tm]) Q E s := by
  refine known_meet w sa vs ds news place many tp tm hl hp hp' hm hm' mean mg mb dp un gd cn cs a ccd cl outer A₀ base h₀ L m s Q E B F X N T hk ⟨hsa.at fun o e => F.keep sa o e, hvs.mono fun a o e => F.keep a o e⟩ hd hu ?_
  rintro v h' tk' news' F' N' ⟨D, ks, n, rfl, rfl, h1, h2⟩
  exact ret D ks n h' tk' F' N' h1 h2


/-- the ledger between the turns over the bits of one component -/
def BtInv (own : List (Addr × Obj)) (ns : List Int) (j : Nat) (nx : List (Addr × Obj)) : Prop := nx = own ∧ ∀ k ∈ ns.take j, k = 0
/-- the ledger between the turns over the components -/
def FiInv (ds : List Sc) (nn : Int) (i : Nat) (nx : List (Addr × Obj)) : Prop := nx = [] ∧ finB ds i nn = true

set_option maxHeartbeats 8000000 in
theorem finished_meet (w : World) (fx : Addr) (sa : Addr) (vs : List Value) (ds : List Sc) (news : List (Addr × Obj)) (many : Nat) (n : Int)
    (hl : ds.length ≤ 20) (hm' : many ≤ 3) (hn : 1 ≤ n) (hn' : n ≤ 4) (hnn : 1 ≤ n * n) (hnn' : n * n ≤ 16) :
    MeetH w 292 [.ref fx, .ref sa] 8 80 news (fun h => h.IsList sa vs.toArray ∧ ScansOn w.params (fun a o => h.get? a = some o) vs ds ∧ FrameOn w.params (fun a o => h.get? a = some o) (.ref fx) many n)
      (fun v news' => v = .bool (finB ds many (n * n)) ∧ news' = news) := by
  unfold MeetH
  k_fill
  intro mean mg mb dp un gd cn cs a ccd cl outer A₀ base h₀ L m s Q E B F X N T hk hpre hd hu hret
  refine wpAny_call ?_
  k_dflt (walk_at "m_enter0")
  (try (with_reducible show wpAny _ _ _ _ _ _))
  k_fold
  rename_i gA LA hA egA FA NA BA XA TA loA grA
  have hS : gA.IsList sa vs.toArray := egA ▸ hpre.1
  have hV : ScansOn w.params (fun a o => gA.get? a = some o) vs ds := egA ▸ hpre.2.1
  have hF : FrameOn w.params (fun a o => gA.get? a = some o) (.ref fx) many n := egA ▸ hpre.2.2
  clear hpre egA
  obtain ⟨x, dx, co, cvs, nc, k1, k2, k3, k4, k5, k6, kd, pr, he, wi, tn, ex, hx, hdx, hco, hlen⟩ := hF
  cases ex
  have hC : gA.IsList co cvs.toArray := ⟨_, hco, rfl, _, rfl⟩
  k_steps
  unfold Stop
  refine rangeM (stored := [Str.ofString "bits"]) (n := many) (FiInv ds (n * n)) (by rfl) (by assumption) (small_n (by omega) (by omega)) (by rw [rangeSize_nat]; omega) (by k_asm) (by k_asm) ⟨rfl, rfl⟩ ?_ ?_
  · rintro i ti u nx h9 tk9 own hi - hoff ⟨rfl, hfin⟩ F9 N9
    simp only [List.nil_append] at N9
    have e0 : (0 : Int) + (i : Int) = (i : Int) := Int.zero_add _
    rw [e0] at F9
    k_steps
    unfold Stop
    refine' known_use ?k1 ?k2 ?k3 ?k4 ?k5 ?k6 ?kS ?kV ?k7 ?k8 ?k9 ?k10 ?k11 ?k12 ?k13 ?_
    case k1 => k_asm
    case k2 => k_asm
    case k3 => k_asm
    case k4 => k_asm
    case k5 => k_asm
    case k6 => first | exact rfl | assumption
    case kS => assumption
    case kV => assumption
    case k7 => assumption
    case k8 => omega
    case k9 => omega
    case k10 => omega
    case k11 => omega
    case k12 => ktr_room
    case k13 => ktr_units
    intro D1 ks1 n1 h1 tk1 F1 N1 hi1 hD1
    (try k_fold)
    k_steps
    unfold Stop
    rename News _ _ _ _ => Nk
    rename IntsAre _ _ => hki
    refine heapM (stored := []) (BtInv own (known ds (i : Int) (n * n))) (by rfl) (news_isList Nk (.head _)) (Nk _ (.head _)).2.1 (by assumption) (by k_asm) (news_sub Nk fun p hp => .tail _ hp) ⟨rfl, fun _ hk => by simp at hk⟩ ?_ ?_
    · rintro j v uj nx hj tkj ownj hvj - hoffj ⟨rfl, hz⟩ Fj Nj
      obtain ⟨k, tk0, rfl, hk⟩ := IntsAre.at hki j v hvj
      have hmem : k ∈ known ds (i : Int) (n * n) := List.mem_of_getElem? hk
      k_steps
      · rename k ≠ 0 => hk0
        refine ⟨_, _, _, by assumption, (News.nil : News gA LA _ []), fun F₂ N₂ => ?_⟩
        exact hret _ _ _ _ F₂ N₂ ⟨by rw [finB_false hi hmem hk0], by simp⟩
      · unfold Stop
        rename k = 0 => hk0
        refine turn_end (by assumption) (by assumption) ⟨rfl, ?_⟩ rfl (fun p hp => List.mem_append_left _ hp) (fun p hp => List.mem_append_right _ hp) same_turn
        intro q hq
        rw [List.take_add_one, hk] at hq
        rcases List.mem_append.mp hq with hq | hq
        · exact hz q hq
        · simp at hq
          omega
    · rintro uj nx hj tkj - ⟨rfl, hz⟩ Fj Nj
      k_steps
      unfold Stop
      refine turn_end (by assumption) (by assumption) ⟨rfl, ?_⟩ rfl (fun _ hp => nomatch hp) (fun p hp => hp) (same_inner same_turn (by decide) (fun z h => by simp at h))
      rw [finB_succ, hfin, Bool.true_and]
      refine List.all_eq_true.mpr fun k hk => ?_
      rw [List.take_of_length_le (by rw [IntsAre.length hki]; exact Nat.le_refl _)] at hz
      simp [hz k hk]
  · rintro u nx h9 tk9 - ⟨rfl, hfin⟩ F9 N9
    k_steps
    show LeaveS _ _ _ _ _ _ _ _
    refine ⟨_, _, _, by assumption, by assumption, fun F₂ N₂ => ?_⟩
    exact hret _ _ _ _ F₂ N₂ ⟨by rw [hfin], by simp⟩
end
section
/-- the comprehension of the lows: what is so far -/
def LfInv (cs : List (Addr × Obj)) (ds : List Sc) (place at' : Int) (i : Nat) (ys : List Value) (nw : List (Addr × Obj)) : Prop := nw = cs ∧ IntsAre ys (lefts (ds.take i) place at') ∧ ys.length ≤ i

set_option maxHeartbeats 8000000 in
theorem left_meet (w : World) (sa : Addr) (vs : List Value) (ds : List Sc) (news : List (Addr × Obj)) (place at' : Int) (tp ta : Tok)
    (hl : ds.length ≤ 20) (hp : 0 ≤ place) (hp' : place ≤ 3) (hm : 0 ≤ at') (hm' : at' ≤ 16) :
    MeetH w 452 [.ref sa, .int place tp, .int at' ta] 4 100 news (fun h => h.IsList sa vs.toArray ∧ ScansOn w.params (fun a o => h.get? a = some o) vs ds)
      (fun v news' => LeftV (lefts ds place at') v ∧ news' = news) := by
  unfold MeetH
  k_fill
  intro mean mg mb dp un gd cn cs a ccd cl outer A₀ base h₀ L m s Q E B F X N T hk hpre hd hu hret
  refine wpAny_call ?_
  k_dflt (walk_at "m_enter0C")
  (try (with_reducible show wpAny _ _ _ _ _ _))
  k_fold
  rename_i gA LA hA tkA egA FA BA XA TA loA grA oA oB dA dB NA
  have hS : gA.IsList sa vs.toArray := egA ▸ hpre.1
  have hV : ScansOn w.params (fun a o => gA.get? a = some o) vs ds := egA ▸ hpre.2
  clear hpre egA
  have hlen := hV.length
  k_steps
  unfold Stop
  refine LCt.CompSrcT.base (by rfl) (by k_asm) (by k_asm) hS (by rw [PySem.sizeLine_eq]; simp only [List.size_toArray]; omega) ?_
  intro g9
  refine compT_inv (LfInv [(LA + 1 + 1, oA), (LA + 1, oB)] ds place at') ⟨rfl, .nil, Nat.le_refl _⟩ ?_ ?_
  · rintro i ys nw v J oJ C oC D m₂ h9 tk9 E' hi9 ⟨rfl, hys, hly⟩ hv9 hC9 hx9 F9 N9 off9 ne9
    simp only [LCg.Off3, and_true] at off9
    obtain ⟨⟨o1, o2, o3⟩, o4, o5, o6⟩ := off9
    have hv9' : vs[i]? = some v := by simpa using hv9
    obtain ⟨d, hd', x, dx, pl, us, n, k1, k2, k3, k4, k5, k6, k7, dc, ac, tst, ten, hi', tlo, rfl, hx, hdx, hpl, hus, hok⟩ := hV.get hv9'
    have hP : gA.IsList pl us.toArray := ⟨_, hpl, rfl, _, rfl⟩
    obtain ⟨ho1, ho2, ho3, ho4, ho5⟩ := hok
    k_steps
    · rename d.start ≤ at' => ha1
      rename at' ≤ d.stop => ha2
      rename (List.any _ _) = _ => ha3
      refine ⟨rfl, ?_, by simp; omega⟩
      rw [lefts_snoc _ _ _ _ _ hd', if_pos (tells_of ha3 ha1 ha2)]
      exact IntsAre.append hys (.cons _ _ .nil)
    · rename ¬ at' ≤ d.stop => ha2
      refine ⟨rfl, ?_, by omega⟩
      rw [lefts_snoc _ _ _ _ _ hd', if_neg (by rw [tells_not (.inr (.inr ha2))]; exact Bool.false_ne_true), List.append_nil]
      exact hys
    · rename ¬ d.start ≤ at' => ha2
      refine ⟨rfl, ?_, by omega⟩
      rw [lefts_snoc _ _ _ _ _ hd', if_neg (by rw [tells_not (.inr (.inl ha2))]; exact Bool.false_ne_true), List.append_nil]
      exact hys
    · rename (List.any _ _) = _ => ha3
      refine ⟨rfl, ?_, by omega⟩
      rw [lefts_snoc _ _ _ _ _ hd', if_neg (by rw [tells_not (.inl ha3)]; exact Bool.false_ne_true), List.append_nil]
      exact hys
  · rintro ys nw ⟨rfl, hys, hly⟩
    have hly' : ys.length ≤ 20 := by simp at hly; omega
    rw [List.take_of_length_le (by simp; omega)] at hys
    k_steps
    · rename decide _ = true => hnil
      have e : lefts ds place at' = [] := of_decide_eq_true hnil
      refine ⟨_, _, _, by assumption, (News.nil : News gA LA _ []), fun F₂ N₂ => ?_⟩
      exact hret _ _ _ _ F₂ N₂ ⟨by rw [e]; rfl, by simp⟩
    · rename decide _ = false => hnil
      have e : lefts ds place at' ≠ [] := of_decide_eq_false hnil
      rename News _ _ _ _ => Nz
      refine item_last (news_isList Nz (.tail _ (.head _))) hys e fun k t hk => ?_
      k_steps
      refine ⟨_, _, _, by assumption, (News.nil : News gA LA _ []), fun F₂ N₂ => ?_⟩
      exact hret _ _ _ _ F₂ N₂ ⟨by unfold LeftV; rw [hk]; exact ⟨t, rfl⟩, by simp⟩
end
section
local macro_rules | `(tactic| walk_at "eval ListComp") => `(tactic| (k_here; k_dflt (refine ListComp_2 (_F₀ := by k_asm) (by with_unfolding_all rfl) (by decide) (by rfl) (by decide) (by rfl) (by rfl) (by decide) (by intro _; rfl) (by intro _ _; rfl) ?_)))
local macro_rules | `(tactic| walk_at "m_pad") => `(tactic| skip)
local macro_rules | `(tactic| walk_at "m_pad") => `(tactic| skip)
theorem left_use {w : World} {sa : Addr} {vs : List Value} {ds : List Sc} {place at' : Int} {tp ta : Tok}
    {mean : ExcName → Option Value} {mg mb : Str → Option Value} {dp un : Nat} {gd : Option (List Code)} {cn : Str} {cs : Scope} {a : Addr} {ccd : Value} {cl : List (Str × Addr)} {outer : List Env} {A₀ : Around} {base h₀ : Heap} {L : Addr} {m : Str → Option Value} {news : List (Addr × Obj)} {s : Shared}
    {Q E : Value → Shared → Prop}
    (B : Below A₀ base outer h₀) (F : Fr h₀ L s.heap m) (X : (hd.heap_1 w.params).In h₀) (N : News h₀ L s.heap news) (T : Top topV (looseW topV [Str.ofString "ORDER_8"]) mean mg mb h₀) (hk : cs.kind = .function)
    (hsa : h₀.IsList sa vs.toArray) (hvs : ScansOn w.params (fun a o => h₀.get? a = some o) vs ds) (hl : ds.length ≤ 20) (hp : 0 ≤ place) (hp' : place ≤ 3) (hm : 0 ≤ at') (hm' : at' ≤ 16) (hd : dp + 4 < recursionLimit) (hu : un + 100 < cLine)
    (some' : ∀ k t h' tk', whole1 ds place at' = decide (k = 0) → Fr h₀ L h' m → News h₀ L h' news → Q (.int k t) { s with heap := h', toks := tk' })
    (none' : ∀ h' tk', whole1 ds place at' = false → Fr h₀ L h' m → News h₀ L h' news → Q .none { s with heap := h', toks := tk' }) :
    wpAny (model PySem.Challenge.rw_ok0138_01.row.prog w) (ktrTop dp un gd cn cs L a ccd cl outer) (call (.ref 452) [.ref sa, .int place tp, .int at' ta]) Q E s := by
  refine left_meet w sa vs ds news place at' tp ta hl hp hp' hm hm' mean mg mb dp un gd cn cs a ccd cl outer A₀ base h₀ L m s Q E B F X N T hk ⟨hsa.at fun o e => F.keep sa o e, hvs.mono fun a o e => F.keep a o e⟩ hd hu ?_
  rintro v h' tk' news' F' N' ⟨hv, rfl⟩
  unfold LeftV at hv
  cases hg : (lefts ds place at').getLast? with
  | none =>
    rw [hg] at hv
    subst hv
    exact none' h' tk' (by unfold whole1; rw [hg]; rfl) F' N'
  | some k =>
    rw [hg] at hv
    obtain ⟨t, rfl⟩ := hv
    exact some' k t h' tk' (by unfold whole1; rw [hg]; simp) F' N'


/-- the comprehension of the coefficients not told whole: what is so far -/
def FnInv (ds : List Sc) (n nn i j : Nat) (ys : List Value) : Prop := ys.length ≤ 16 * i + j ∧ i ≤ n ∧ j ≤ nn ∧ ∃ ns, IntsAre ys ns ∧ decide (ns = []) = wholeB ds nn i j

theorem fn_no {ds : List Sc} {n nn i j : Nat} {ys : List Value} {t : Tok} (h : FnInv ds n nn i j ys) (hj : j < nn) (hw : whole1 ds (i : Int) (j : Int) = false) : FnInv ds n nn i (j + 1) (ys ++ [.int 1 t]) := by
  obtain ⟨h1, h2, h3, ns, h4, h5⟩ := h
  refine ⟨by simp; omega, h2, hj, ns ++ [1], IntsAre.append h4 (.cons _ _ .nil), ?_⟩
  rw [wholeB_step, hw, Bool.and_false]
  simp
theorem fn_yes {ds : List Sc} {n nn i j : Nat} {ys : List Value} (h : FnInv ds n nn i j ys) (hj : j < nn) (hw : whole1 ds (i : Int) (j : Int) = true) : FnInv ds n nn i (j + 1) ys := by
  obtain ⟨h1, h2, h3, ns, h4, h5⟩ := h
  refine ⟨by omega, h2, hj, ns, h4, ?_⟩
  rw [wholeB_step, hw, Bool.and_true]
  exact h5

set_option maxHeartbeats 8000000 in
theorem lfin_meet (w : World) (sa : Addr) (vs : List Value) (ds : List Sc) (news : List (Addr × Obj)) (many nn : Nat) (n : Int) (tm tn : Tok)
    (hl : ds.length ≤ 20) (hm' : many ≤ 3) (hnn : n * n = (nn : Int)) (hnn' : nn ≤ 16) (hn : 1 ≤ n) (hn' : n ≤ 4) :
    MeetH w 457 [.ref sa, .int (many : Int) tm, .int n tn] 8 140 news (fun h => h.IsList sa vs.toArray ∧ ScansOn w.params (fun a o => h.get? a = some o) vs ds)
      (fun v news' => v = .bool (wholeB ds nn many 0) ∧ news' = news) := by
  unfold MeetH
  k_fill
  intro mean mg mb dp un gd cn cs a ccd cl outer A₀ base h₀ L m s Q E B F X N T hk hpre hd hu hret
  refine wpAny_call ?_
  k_dflt (walk_at "m_enter0C")
  (try (with_reducible show wpAny _ _ _ _ _ _))
  k_fold
  rename_i gA LA hA tkA egA FA BA XA TA loA grA oA oB dA dB NA
  have hS : gA.IsList sa vs.toArray := egA ▸ hpre.1
  have hV : ScansOn w.params (fun a o => gA.get? a = some o) vs ds := egA ▸ hpre.2
  clear hpre egA
  k_steps
  refine ⟨_, _, _, _, many, nn, _, FnInv ds many nn, rfl, by rfl, by k_asm, by k_asm, by assumption, by omega, by omega, ⟨Nat.zero_le _, Nat.zero_le _, Nat.zero_le _, [], .nil, rfl⟩, ?_, ?_, ?_⟩
  · rintro i j ys ⟨h1, h2, h3, _⟩
    rw [PySem.sizeLine_eq]
    omega
  · rintro i ys hi ⟨h1, h2, h3, ns, h4, h5⟩
    exact ⟨by omega, hi, Nat.zero_le _, ns, h4, by rw [h5, wholeB_next]⟩
  · rintro s₂ ⟨g2, rfl⟩
    refine ⟨⟨?_, ?_⟩, ?_⟩
    · intro i t ys I oI C oC D m₂ h9 tk9 E' hi hC9 hx9 F9 N9
      k_steps
      exact ⟨_, _, _, _, _, _, rfl, rfl, by assumption, by assumption, by rw [← hnn]; assumption⟩
    · rintro i j t t' ys I2 oI2 I oI C oC D m₂ h9 tk9 E' hi hj hfn hC9 hx9 hy9 F9 N9 off9 ne9
      simp only [LCg.Off3, and_true] at off9
      obtain ⟨⟨o1, o2, o3⟩, ⟨o4, o5, o6⟩, o7, o8, o9⟩ := off9
      k_steps
      unfold Stop
      refine' left_use ?k1 ?k2 ?k3 ?k4 ?k5 ?k6 ?kS ?kV ?k7 ?k8 ?k9 ?k10 ?k11 ?k12 ?k13 ?kA ?kB
      case k1 => k_asm
      case k2 => k_asm
      case k3 => k_asm
      case k4 => k_asm
      case k5 => k_asm
      case k6 => first | exact rfl | assumption
      case kS => assumption
      case kV => assumption
      case k7 => assumption
      case k8 => omega
      case k9 => omega
      case k10 => omega
      case k11 => omega
      case k12 => ktr_room
      case k13 => ktr_units
      case kA =>
        intro k1 t1 h1 tk1 hw F1 N1
        (try k_fold)
        k_steps
        · rename _ ≠ (0 : Int) => hk0
          exact fn_no hfn hj (by rw [hw]; exact decide_eq_false hk0)
        · rename _ = (0 : Int) => hk0
          exact fn_yes hfn hj (by rw [hw]; exact decide_eq_true hk0)
      case kB =>
        intro h1 tk1 hw F1 N1
        (try k_fold)
        k_steps
        exact fn_no hfn hj hw
    · rintro ys ⟨hj1, hj2, hj3, ns, hj4, hj5⟩
      k_steps
      refine ⟨_, _, _, by assumption, (News.nil : News gA LA _ []), fun F₂ N₂ => ?_⟩
      exact hret _ _ _ _ F₂ N₂ ⟨by rw [hj5], by simp⟩
end
end
section
section
variable {w : World} {mean : ExcName → Option Value} {mg mb : Str → Option Value} {dp un : Nat} {gd : Option (List Code)} {cn : Str} {cs : Scope} {a : Addr} {ccd : Value} {cl : List (Str × Addr)} {outer : List Env} {A₀ : Around} {base h₀ : Heap} {L : Addr} {m : Str → Option Value} {news : List (Addr × Obj)} {s : Shared}
  {Q E : Value → Shared → Prop}

theorem pool_use {l : Addr} {vs : List Value} {ns : List Int} {k : Int} {tk0 : Tok}
    (B : Below A₀ base outer h₀) (F : Fr h₀ L s.heap m) (X : (hd.heap_1 w.params).In h₀) (N : News h₀ L s.heap news) (T : Top topV (looseW topV [Str.ofString "ORDER_8"]) mean mg mb h₀) (hk : cs.kind = .function)
    (hl : h₀.IsList l vs.toArray) (hi : IntsAre vs ns) (hlen : ns.length ≤ 63) (hk0 : 0 ≤ k) (hk2 : k ≤ 2) (hd : dp + 4 < recursionLimit) (hu : un + 60 < cLine)
    (ret : ∀ D s0 t0 s1 t1 n h' tk', SrcOk s0 s1 → (∀ p ∈ news, @Ne Nat p.1 D) → Fr h₀ L h' m → News h₀ L h' ((D, srcO s0 t0 s1 t1 n) :: news) → Q (.ref D) { s with heap := h', toks := tk' }) :
    wpAny (model PySem.Challenge.rw_ok0138_01.row.prog w) (ktrTop dp un gd cn cs L a ccd cl outer) (call (.ref 428) [.ref l, .int k tk0]) Q E s := by
  refine pool_meet w l vs ns news k tk0 hi hlen hk0 hk2 mean mg mb dp un gd cn cs a ccd cl outer A₀ base h₀ L m s Q E B F X N T hk (hl.at fun o e => F.keep l o e) hd hu ?_
  rintro v h' tk' news' F' N' ⟨D, s0, t0, s1, t1, n, rfl, rfl, h1, h2⟩
  exact ret D s0 t0 s1 t1 n h' tk' h1 h2 F' N'

theorem drawn_use {src : Addr} {s0 s1 : Int} {t0 t1 : Tok} {n0 : Nat} {rest : List (Addr × Obj)} {many n : Int} {tm tn : Tok}
    (B : Below A₀ base outer h₀) (F : Fr h₀ L s.heap m) (X : (hd.heap_1 w.params).In h₀) (N : News h₀ L s.heap ((src, srcO s0 t0 s1 t1 n0) :: rest)) (T : Top topV (looseW topV [Str.ofString "ORDER_8"]) mean mg mb h₀) (hk : cs.kind = .function)
    (hdis : ∀ p ∈ rest, p.1 ≠ src) (ok : SrcOk s0 s1) (hm : 1 ≤ many) (hm' : many ≤ 3) (hn : 1 ≤ n) (hn' : n ≤ 4) (hd : dp + 12 < recursionLimit) (hu : un + 100 < cLine)
    (ret : ∀ v tl d s0' t0' s1' t1' n' h' tk', ScanOn w.params (fun a o => (a, o) ∈ tl) v d → SrcOk s0' s1' → (∀ p ∈ tl, p.1 ≠ src) → (∀ p ∈ tl, ∀ q ∈ rest, p.1 ≠ q.1) → Fr h₀ L h' m → News h₀ L h' ((src, srcO s0' t0' s1' t1' n') :: (tl ++ rest)) → Q v { s with heap := h', toks := tk' }) :
    wpAny (model PySem.Challenge.rw_ok0138_01.row.prog w) (ktrTop dp un gd cn cs L a ccd cl outer) (call (.ref 447) [.ref src, .int many tm, .int n tn]) Q E s := by
  have hnn : 1 ≤ n * n ∧ n * n ≤ 16 := by
    have h : n = 1 ∨ n = 2 ∨ n = 3 ∨ n = 4 := by omega
    rcases h with rfl | rfl | rfl | rfl <;> decide
  refine drawn_meet w src s0 s1 t0 t1 n0 rest many n tm tn (fun p hp q hq => by rw [List.mem_singleton.mp hq]; exact hdis p hp) ok hm hm' hn hn' hnn.1 hnn.2 mean mg mb dp un gd cn cs a ccd cl outer A₀ base h₀ L m s Q E B F X N T hk hd hu ?_
  rintro v h' tk' news' F' N' ⟨tl, d, s0', t0', s1', t1', n', h1, h2, rfl, h3, h4⟩
  exact ret v tl d s0' t0' s1' t1' n' h' tk' h1 h2 h3 h4 F' N'

theorem fin_use {fx sa : Addr} {vs : List Value} {ds : List Sc} {many : Nat} {n : Int}
    (B : Below A₀ base outer h₀) (F : Fr h₀ L s.heap m) (X : (hd.heap_1 w.params).In h₀) (N : News h₀ L s.heap news) (T : Top topV (looseW topV [Str.ofString "ORDER_8"]) mean mg mb h₀) (hk : cs.kind = .function)
    (hsa : s.heap.IsList sa vs.toArray) (hvs : ScansOn w.params (fun a o => (a, o) ∈ news) vs ds) (hfr : FrameOn w.params (fun a o => (a, o) ∈ news) (.ref fx) many n)
    (hl : ds.length ≤ 20) (hm' : many ≤ 3) (hn : 1 ≤ n) (hn' : n ≤ 4) (hd : dp + 8 < recursionLimit) (hu : un + 80 < cLine)
    (ret : ∀ h' tk', Fr h₀ L h' m → News h₀ L h' news → Q (.bool (finB ds many (n * n))) { s with heap := h', toks := tk' }) :
    wpAny (model PySem.Challenge.rw_ok0138_01.row.prog w) (ktrTop dp un gd cn cs L a ccd cl outer) (call (.ref 292) [.ref fx, .ref sa]) Q E s := by
  have hnn : 1 ≤ n * n ∧ n * n ≤ 16 := by
    have h : n = 1 ∨ n = 2 ∨ n = 3 ∨ n = 4 := by omega
    rcases h with rfl | rfl | rfl | rfl <;> decide
  refine finished_meet w fx sa vs ds news many n hl hm' hn hn' hnn.1 hnn.2 mean mg mb dp un gd cn cs a ccd cl outer A₀ base h₀ L m s Q E B F X N T hk ⟨hsa, hvs.mono fun a o h => (N _ h).1, hfr.mono fun a o h => (N _ h).1⟩ hd hu ?_
  rintro v h' tk' news' F' N' ⟨rfl, rfl⟩
  exact ret h' tk' F' N'

theorem lfin_use {sa : Addr} {vs : List Value} {ds : List Sc} {many nn : Nat} {mi : Int} {n : Int} {tm tn : Tok}
    (B : Below A₀ base outer h₀) (F : Fr h₀ L s.heap m) (X : (hd.heap_1 w.params).In h₀) (N : News h₀ L s.heap news) (T : Top topV (looseW topV [Str.ofString "ORDER_8"]) mean mg mb h₀) (hk : cs.kind = .function)
    (hsa : s.heap.IsList sa vs.toArray) (hvs : ScansOn w.params (fun a o => (a, o) ∈ news) vs ds) (hmi : mi = (many : Int)) (hnn : n * n = (nn : Int))
    (hl : ds.length ≤ 20) (hm' : many ≤ 3) (hn : 1 ≤ n) (hn' : n ≤ 4) (hnn' : nn ≤ 16) (hd : dp + 8 < recursionLimit) (hu : un + 140 < cLine)
    (ret : ∀ h' tk', Fr h₀ L h' m → News h₀ L h' news → Q (.bool (wholeB ds nn many 0)) { s with heap := h', toks := tk' }) :
    wpAny (model PySem.Challenge.rw_ok0138_01.row.prog w) (ktrTop dp un gd cn cs L a ccd cl outer) (call (.ref 457) [.ref sa, .int mi tm, .int n tn]) Q E s := by
  subst hmi
  refine lfin_meet w sa vs ds news many nn n tm tn hl hm' hnn hnn' hn hn' mean mg mb dp un gd cn cs a ccd cl outer A₀ base h₀ L m s Q E B F X N T hk ⟨hsa, hvs.mono fun a o h => (N _ h).1⟩ hd hu ?_
  rintro v h' tk' news' F' N' ⟨rfl, rfl⟩
  exact ret h' tk' F' N'

theorem guess_use {n : Int} {tn : Tok}
    (B : Below A₀ base outer h₀) (F : Fr h₀ L s.heap m) (X : (hd.heap_1 w.params).In h₀) (N : News h₀ L s.heap news) (T : Top topV (looseW topV [Str.ofString "ORDER_8"]) mean mg mb h₀) (hk : cs.kind = .function)
    (hn : 1 ≤ n) (hn' : n ≤ 4) (hd : dp + 20 < recursionLimit) (hu : un + 160 < cLine)
    (ret : ∀ D vs k h' tk', OptAre vs (guessL n) → (∀ p ∈ news, @Ne Nat p.1 D) → Fr h₀ L h' m → News h₀ L h' ((D, listOf vs.toArray k) :: news) → Q (.ref D) { s with heap := h', toks := tk' }) :
    wpAny (model PySem.Challenge.rw_ok0138_01.row.prog w) (ktrTop dp un gd cn cs L a ccd cl outer) (call (.ref 285) [.int n tn]) Q E s := by
  refine guess_meet w news n tn hn hn' mean mg mb dp un gd cn cs a ccd cl outer A₀ base h₀ L m s Q E B F X N T hk trivial hd hu ?_
  rintro v h' tk' news' F' N' ⟨D, vs, k, rfl, rfl, h1, h2⟩
  exact ret D vs k h' tk' h1 h2 F' N'

theorem rank_use {n x y : Int} {tn tx ty : Tok}
    (B : Below A₀ base outer h₀) (F : Fr h₀ L s.heap m) (X : (hd.heap_1 w.params).In h₀) (N : News h₀ L s.heap news) (T : Top topV (looseW topV [Str.ofString "ORDER_8"]) mean mg mb h₀) (hk : cs.kind = .function)
    (hn : 1 ≤ n) (hn' : n ≤ 4) (hx : 0 ≤ x) (hx' : x ≤ 2) (hy : 0 ≤ y) (hy' : y ≤ 2) (hd : dp + 8 < recursionLimit) (hu : un + 140 < cLine)
    (ret : ∀ v h' tk', OptAre [v] [rankO n.toNat x y] → Fr h₀ L h' m → News h₀ L h' news → Q v { s with heap := h', toks := tk' }) :
    wpAny (model PySem.Challenge.rw_ok0138_01.row.prog w) (ktrTop dp un gd cn cs L a ccd cl outer) (call (.ref 462) [.int n tn, .int x tx, .int y ty]) Q E s := by
  obtain ⟨n', rfl⟩ : ∃ n' : Nat, n = (n' : Int) := ⟨n.toNat, by omega⟩
  refine rank_meet w news n' x y tn tx ty (by omega) (by omega) hx hx' hy hy' mean mg mb dp un gd cn cs a ccd cl outer A₀ base h₀ L m s Q E B F X N T hk trivial hd hu ?_
  rintro v h' tk' news' F' N' ⟨rfl, h⟩
  refine ret v h' tk' ?_ F' N'
  rw [Int.toNat_natCast]
  rcases h with ⟨rfl, h⟩ | ⟨k, t, rfl, h⟩
  · rw [h]; exact .none .nil
  · rw [h]; exact .int rfl .nil
end
theorem ranks_guess : ∀ n : Nat, 1 ≤ n → n ≤ 4 → [rankO n 1 0, rankO n 0 1, rankO n 0 2, rankO n 1 1, rankO n 2 0] = guessL (n : Int) := by
  intro n h1 h4
  have h : n = 1 ∨ n = 2 ∨ n = 3 ∨ n = 4 := by omega
  rcases h with rfl | rfl | rfl | rfl <;> decide
end
section
theorem cat_use {prog : Program} {w : World} {A : Around} {E : Value → Shared → Prop} {s : Shared} {h₀ : Heap} {L a b : Addr} {m : Str → Option Value} {news : List (Addr × Obj)} {vs ws : List Value} {Q : Value → Shared → Prop}
    (F : Fr h₀ L s.heap m) (N : News h₀ L s.heap news) (ha : s.heap.IsList a vs.toArray) (hb : s.heap.IsList b ws.toArray) (hz : vs.length + ws.length ≤ PySem.sizeLine)
    (h : ∀ D h', Fr h₀ L h' m → News h₀ L h' ((D, listOf (vs ++ ws).toArray 0) :: news) → (∀ p ∈ news, p.1 < D) → Q (.ref D) { s with heap := h' }) : wpAny (model prog w) A (binaryOp .Add (.ref a) (.ref b)) Q E s :=
  add_lists F N ha hb (fun h' F' N' => h _ h' F' N' fun p hp => Heap.lt_size (N p hp).1) hz
theorem below_at {A : Around} {g : Heap} {l : Addr} {vs : Array Value} (_ : g.IsList l vs) (K : Below A g [] g) : Below A g [] g := K
/-- the comprehension of the components: what is so far -/
def CmInv (nw₀ : List (Addr × Obj)) (i : Nat) (ys : List Value) (nw : List (Addr × Obj)) : Prop := nw = nw₀ ∧ ys.length = i
/-- the comprehension of the scans: what is so far -/
def ScInv (P : Params) (src : Addr) (fix own : List (Addr × Obj)) (i : Nat) (ys : List Value) (nw : List (Addr × Obj)) : Prop :=
  ∃ s0 t0 s1 t1 n0 rr ds, SrcOk s0 s1 ∧ nw = (src, srcO s0 t0 s1 t1 n0) :: (fix ++ rr) ∧ ScansOn P (fun a o => (a, o) ∈ rr) ys ds ∧ (∀ p ∈ own, p ∈ rr) ∧ (∀ p ∈ rr, @Ne Nat p.1 src) ∧ ys.length ≤ i
theorem sc_comp {prog : Program} {w : World} {A : Around} {h₀ : Heap} {L : Addr} {m : Str → Option Value} {env : Env} {elt : Expr} {x : Str} {scope : Scope} {cl : List (Str × Addr)} {s : Shared} {S : List (Addr × Obj) → Prop} {V : Nat → Value → Prop} {Fin : List Value → List (Addr × Obj) → Prop}
    {n : Nat} (P : Params) {src : Addr} {s0 s1 : Int} {t0 t1 : Tok} {n0 : Nat} {a b c d e f : Addr × Obj} {own : List (Addr × Obj)} (hs : SrcOk s0 s1) (hown : ∀ p ∈ own, @Ne Nat p.1 src)
    (turn : ∀ i ys nw v J oJ C oC D m₂ h tk (E' : Value → Shared → Prop), i < n → ScInv P src [a, b, c, d, e, f] own i ys nw → V i v → LCg.NsObj oC m₂ → m₂ x = some v → Fr h₀ L h m → News h₀ L h ((J, oJ) :: (C, oC) :: (D, LCg.lst ys) :: nw) → LCg.Off3 J C D nw → ((@Ne Nat J C) ∧ (@Ne Nat J D) ∧ (@Ne Nat C D)) →
      wpAny (model prog w) A (eval elt (compEnvC scope cl C env)) (LCg.CompEnd h₀ L m { s with heap := h, toks := tk } J oJ C oC D (LCg.lst ys) S (fun y nw' => ScInv P src [a, b, c, d, e, f] own (i + 1) (ys ++ [y]) nw')) E' { s with heap := h, toks := tk })
    (fin : ∀ ys nw, ScInv P src [a, b, c, d, e, f] own n ys nw → Fin ys nw) : LCg.CompRest prog w A h₀ L m env elt x scope cl s S V Fin n 0 [] ((src, srcO s0 t0 s1 t1 n0) :: a :: b :: c :: d :: e :: f :: own) :=
  compU_inv (ScInv P src [a, b, c, d, e, f] own) ⟨s0, t0, s1, t1, n0, own, [], hs, rfl, .nil, fun _ hp => hp, hown, Nat.le_refl _⟩ turn fin
theorem led_pull {h₀ h : Heap} {L : Addr} {a b c d e f : Addr × Obj} {r : List (Addr × Obj)} (N : News h₀ L h (a :: b :: c :: d :: e :: f :: r)) : News h₀ L h (f :: a :: b :: c :: r) :=
  news_sub N fun p hp => by
    simp only [List.mem_cons] at hp ⊢
    rcases hp with h | h | h | h | h <;> simp [h]
theorem led_rot {h₀ h : Heap} {L : Addr} {a b c f : Addr × Obj} {r : List (Addr × Obj)} (N : News h₀ L h (a :: b :: c :: f :: r)) : News h₀ L h (f :: a :: b :: c :: r) :=
  news_sub N fun p hp => by
    simp only [List.mem_cons] at hp ⊢
    rcases hp with h | h | h | h | h <;> simp [h]
theorem sc_turn {h₀ h' : Heap} {L src J C D : Addr} {o o' oJ oC oD : Obj} {m : Str → Option Value} {s₁ : Shared} {tk : Nat} {v : Value} {tl fix rr : List (Addr × Obj)} {K : Value → List (Addr × Obj) → Prop}
    (F : Fr h₀ L h' m) (N : News h₀ L h' ((src, o') :: (tl ++ (J, oJ) :: (C, oC) :: (D, oD) :: (fix ++ rr)))) (off : LCg.Off3 J C D ((src, o) :: (fix ++ rr)))
    (h4 : ∀ p ∈ tl, ∀ q ∈ (J, oJ) :: (C, oC) :: (D, oD) :: (fix ++ rr), p.1 ≠ q.1) (hK : K v ((src, o') :: (fix ++ (tl ++ rr)))) :
    LCg.CompEnd h₀ L m s₁ J oJ C oC D oD (fun _ => True) K v { s₁ with heap := h', toks := tk } := by
  have off' := off.mem
  refine LCg.CompEnd.intro F N ((src, o') :: (fix ++ (tl ++ rr))) ?_ ?_ trivial hK
  · intro p hp
    simp only [List.mem_cons, List.mem_append] at hp ⊢
    rcases hp with h | h | h | h | h | h | h <;> simp [h]
  · refine LCg.Off3.of fun p hp => ?_
    simp only [List.mem_cons, List.mem_append] at hp
    rcases hp with rfl | h | h | h
    · exact off' (src, o) (.head _)
    · exact off' p (.tail _ (List.mem_append_left _ h))
    · exact ⟨h4 p h _ (.head _), h4 p h _ (.tail _ (.head _)), h4 p h _ (.tail _ (.tail _ (.head _)))⟩
    · exact off' p (.tail _ (List.mem_append_right _ h))
theorem n_bounds {n : Int} (h : n ∈ ([2, 1, 3, 4] : List Int)) : 1 ≤ n ∧ n ≤ 4 := by
  simp only [List.mem_cons, List.not_mem_nil, or_false] at h
  omega
theorem n_square {n : Int} (h : 1 ≤ n ∧ n ≤ 4) : 1 ≤ n * n ∧ n * n ≤ 16 := by
  have h : n = 1 ∨ n = 2 ∨ n = 3 ∨ n = 4 := by omega
  rcases h with rfl | rfl | rfl | rfl <;> decide
/-- the ledger between the law's turns: three cells -/
def LwInv (c1 c2 c3 : Addr) (_ : Nat) (nx : List (Addr × Obj)) : Prop := ∃ o1 o2 o3 v1 v2 v3, nx = [(c1, o1), (c2, o2), (c3, o3)] ∧ o1.data = .cell v1 ∧ o2.data = .cell v2 ∧ o3.data = .cell v3

theorem scans_start {P : Params} {H : Addr → Obj → Prop} {vs : List Value} {ds : List Sc} (h : ScansOn P H vs ds) : ∀ d ∈ ds, 0 ≤ d.start := by
  induction h with
  | nil => exact fun _ h => nomatch h
  | cons h1 _ ih =>
    intro e he
    rcases List.mem_cons.mp he with rfl | he
    · obtain ⟨x, dx, pl, ys, n, k1, k2, k3, k4, k5, k6, k7, dc, ac, tst, ten, hi, tlo, _, _, _, _, _, ok⟩ := h1
      exact ok.2.1
    · exact ih e he
/-- a list of scans, as a value of the ledger -/
def RowOk (P : Params) (K : List (Addr × Obj)) (v : Value) : Prop := ∃ a vs n ds, v = .ref a ∧ (a, listOf (List.toArray vs) n) ∈ K ∧ ScansOn P (fun a o => (a, o) ∈ K) vs ds ∧ ds.length ≤ 20
theorem lt_all {h₀ h : Heap} {L d : Addr} {o : Obj} {l : List (Addr × Obj)} (_ : News h₀ L h ((d, o) :: l)) (hl : AllLt d l) : ∀ p ∈ l, @Ne Nat p.1 d := by
  have key : ∀ l : List (Addr × Obj), AllLt d l → ∀ p ∈ l, @Ne Nat p.1 d := by
    intro l
    induction l with
    | nil => exact fun _ _ h => nomatch h
    | cons q r ih =>
      intro hl p hp
      rcases List.mem_cons.mp hp with rfl | hp
      · exact Nat.ne_of_lt hl.1
      · exact ih hl.2 p hp
  exact key l hl
theorem led_tail {h₀ h : Heap} {L : Addr} {q : Addr × Obj} {tl fx rr : List (Addr × Obj)} (N : News h₀ L h (q :: (tl ++ (fx ++ rr)))) : News h₀ L h (q :: (fx ++ (tl ++ rr))) :=
  news_sub N fun p hp => by
    simp only [List.mem_cons, List.mem_append] at hp ⊢
    rcases hp with h | h | h | h <;> simp [h]
theorem in_rangeKs (n p : Nat) (h : p < n) : (p : Int) ∈ rangeKs 0 n := by
  unfold rangeKs
  simp
  first | omega | exact ⟨p, h, by omega⟩ | exact ⟨p, h, rfl⟩
/-- the ledger between the rows -/
def RwInv (K : List (Addr × Obj)) (_ : Nat) (nx : List (Addr × Obj)) : Prop := nx = K
theorem rows_on {P : Params} {h₀ h : Heap} {L Ds Dm De : Addr} {q : Addr × Obj} {K : List (Addr × Obj)} {ys ms : List Value} {n1 n2 n3 : Nat} {ds es : List Sc} (_ : News h₀ L h (q :: (Ds, listOf ys.toArray n1) :: (Dm, listOf ms.toArray n2) :: (De, listOf (List.toArray []) n3) :: K))
    (h1 : ScansOn P (fun a o => (a, o) ∈ (Ds, listOf ys.toArray n1) :: (Dm, listOf ms.toArray n2) :: (De, listOf (List.toArray []) n3) :: K) ys ds) (h2 : ScansOn P (fun a o => (a, o) ∈ (Ds, listOf ys.toArray n1) :: (Dm, listOf ms.toArray n2) :: (De, listOf (List.toArray []) n3) :: K) ms es) (hl1 : ds.length ≤ 20) (hl2 : es.length ≤ 20) :
    ∀ v ∈ [Value.ref Ds, .ref Dm, .ref De], RowOk P ((Ds, listOf ys.toArray n1) :: (Dm, listOf ms.toArray n2) :: (De, listOf (List.toArray []) n3) :: K) v := by
  intro v hv
  simp only [List.mem_cons, List.not_mem_nil, or_false] at hv
  rcases hv with rfl | rfl | rfl
  · exact ⟨Ds, ys, n1, ds, rfl, .head _, h1, hl1⟩
  · exact ⟨Dm, ms, n2, es, rfl, .tail _ (.head _), h2, hl2⟩
  · exact ⟨De, [], n3, [], rfl, .tail _ (.tail _ (.head _)), .nil, by simp⟩
theorem tail12 {p a1 a2 a3 a4 a5 a6 a7 a8 a9 b1 b2 b3 : Addr × Obj} {r : List (Addr × Obj)} (h : p ∈ r) : p ∈ a1 :: a2 :: a3 :: a4 :: a5 :: a6 :: a7 :: a8 :: a9 :: b1 :: b2 :: b3 :: r :=
  .tail _ (.tail _ (.tail _ (.tail _ (.tail _ (.tail _ (.tail _ (.tail _ (.tail _ (.tail _ (.tail _ (.tail _ h)))))))))))
theorem sq_nat {n : Int} (h : 1 ≤ n ∧ n ≤ 4) : ∃ nn : Nat, n * n = (nn : Int) ∧ 1 ≤ nn ∧ nn ≤ 16 := by
  have h : n = 1 ∨ n = 2 ∨ n = 3 ∨ n = 4 := by omega
  rcases h with rfl | rfl | rfl | rfl
  · exact ⟨1, by decide⟩
  · exact ⟨4, by decide⟩
  · exact ⟨9, by decide⟩
  · exact ⟨16, by decide⟩
theorem k1_on {P : Params} {h₀ h : Heap} {L : Addr} {q a1 a2 a3 a4 a5 a6 a7 a8 a9 b1 b2 b3 : Addr × Obj} {r : List (Addr × Obj)} {ys : List Value} {ds : List Sc} (_ : News h₀ L h (q :: a1 :: a2 :: a3 :: a4 :: a5 :: a6 :: a7 :: a8 :: a9 :: b1 :: b2 :: b3 :: r)) (hd : ScansOn P (fun a o => (a, o) ∈ r) ys ds) :
    ScansOn P (fun a o => (a, o) ∈ a1 :: a2 :: a3 :: a4 :: a5 :: a6 :: a7 :: a8 :: a9 :: b1 :: b2 :: b3 :: r) ys ds := hd.mono fun _ _ h => tail12 h
theorem last_fin {P : Params} {H : Addr → Obj → Prop} {v : Value} {d : Sc} {ds : List Sc} {ys : List Value} {many nn : Nat} (h1 : ScansOn P H ys ds) (_ : ScanOn P H v d) (h0 : d.start = 0) (hs : (nn : Int) - 1 ≤ d.stop) (hl : d.low = 0) (hp : ∀ p : Nat, p < many → (p : Int) ∈ d.places) :
    finB (ds ++ [d]) many (nn : Int) = true := fin_last ds d many nn (scans_start h1) h0 hs hl hp
theorem many_of {r : Int} {k : Nat} (h0 : 0 ≤ r) (h3 : r < 3) (h : k = (1 + r - 0).toNat) : k ≤ 3 ∧ 1 + r = (k : Int) ∧ (1 + r - 0).toNat ≤ 3 ∧ (1 + r - 0).toNat ≤ 2 ^ 24 ∧ 1 ≤ 1 + r ∧ 1 + r ≤ 3 := by
  refine ⟨?_, ?_, ?_, ?_, ?_, ?_⟩ <;> omega
theorem le_six {r : Int} {k : Nat} (h0 : 0 ≤ r) (h7 : r < 7) (h : k ≤ (r - 0).toNat) : k ≤ 6 := by omega
theorem in6 {p1 p2 p3 p4 p5 p6 p : Addr × Obj} {r : List (Addr × Obj)} (h : p ∈ [p1, p2, p3, p4, p5, p6]) : p ∈ p1 :: p2 :: p3 :: p4 :: p5 :: p6 :: r := by
  simp only [List.mem_cons, List.not_mem_nil, or_false] at h ⊢
  rcases h with h | h | h | h | h | h <;> simp [h]
theorem tail9 {p a1 a2 a3 a4 a5 a6 b1 b2 b3 : Addr × Obj} {r : List (Addr × Obj)} (h : p ∈ r) : p ∈ a1 :: a2 :: a3 :: a4 :: a5 :: a6 :: b1 :: b2 :: b3 :: r :=
  .tail _ (.tail _ (.tail _ (.tail _ (.tail _ (.tail _ (.tail _ (.tail _ (.tail _ h))))))))
/-- the scan that tells all and the frame are made: what they are made of is six entries of the ledger, seen no more -/
theorem at_A {P : Params} {h₀ h : Heap} {L x dx Dr src x1 d1 Dc : Addr} {os : Obj} {l1 l2 q c1 c2 c3 : Addr × Obj} {rr : List (Addr × Obj)} {vs cvs : List Value} {ns : List Int} {n1 nc : Nat} {k1 k2 k3 k4 k5 k6 k7 : Tok} {dc ac hi : Value} {st en lo : Int} {tst ten tlo : Tok}
    {f1 f2 f3 f4 f5 f6 : Tok} {kd pr he wi : Value} {n : Int} {tn : Tok} {G : Prop}
    (N : News h₀ L h ((x, instObj 417 dx) :: (dx, dictOf (scanEs P k1 k2 k3 k4 k5 k6 k7 Dr dc ac st tst en ten hi lo tlo) 7) :: l1 :: l2 :: (Dr, listOf vs.toArray n1) :: q :: (src, os) :: (x1, instObj 382 d1) :: (d1, dictOf (frameEs P f1 f2 f3 f4 f5 f6 kd pr he wi Dc n tn) 6) :: (Dc, listOf cvs.toArray nc) :: c1 :: c2 :: c3 :: rr))
    (h4 : IntsAre vs ns) (ok : ns.length ≤ 3 ∧ 0 ≤ st ∧ st ≤ 100 ∧ -100 ≤ en ∧ en ≤ 100) (e1 : @Ne Nat x src) (e2 : @Ne Nat dx src) (e3 : @Ne Nat Dr src) (e4 : @Ne Nat x1 src) (e5 : @Ne Nat d1 src) (e6 : @Ne Nat Dc src)
    (k : ∀ p1 p2 p3 p4 p5 p6 : Addr × Obj, ScanOn P (fun a o => (a, o) ∈ [p1, p2, p3, p4, p5, p6]) (.ref x) ⟨ns, st, en, lo⟩ → FrameOn P (fun a o => (a, o) ∈ [p1, p2, p3, p4, p5, p6]) (.ref x1) cvs.length n →
      @Ne Nat p1.1 src → @Ne Nat p2.1 src → @Ne Nat p3.1 src → @Ne Nat p4.1 src → @Ne Nat p5.1 src → @Ne Nat p6.1 src →
      News h₀ L h ((src, os) :: q :: p1 :: p2 :: p3 :: p4 :: p5 :: p6 :: c1 :: c2 :: c3 :: rr) → G) : G := by
  refine k (x, instObj 417 dx) (dx, dictOf (scanEs P k1 k2 k3 k4 k5 k6 k7 Dr dc ac st tst en ten hi lo tlo) 7) (Dr, listOf vs.toArray n1) (x1, instObj 382 d1) (d1, dictOf (frameEs P f1 f2 f3 f4 f5 f6 kd pr he wi Dc n tn) 6) (Dc, listOf cvs.toArray nc)
    ⟨x, dx, Dr, vs, n1, k1, k2, k3, k4, k5, k6, k7, dc, ac, tst, ten, hi, tlo, rfl, .head _, .tail _ (.head _), .tail _ (.tail _ (.head _)), h4, ok⟩
    ⟨x1, d1, Dc, cvs, nc, f1, f2, f3, f4, f5, f6, kd, pr, he, wi, tn, rfl, .tail _ (.tail _ (.tail _ (.head _))), .tail _ (.tail _ (.tail _ (.tail _ (.head _)))), .tail _ (.tail _ (.tail _ (.tail _ (.tail _ (.head _))))), rfl⟩
    e1 e2 e3 e4 e5 e6 (news_sub N (List.forall_mem_cons.mpr ⟨by k_mem, List.forall_mem_cons.mpr ⟨by k_mem, List.forall_mem_cons.mpr ⟨by k_mem, List.forall_mem_cons.mpr ⟨by k_mem, List.forall_mem_cons.mpr ⟨by k_mem, fun p hp => .tail _ (.tail _ (.tail _ (.tail _ (.tail _ (.tail _ (.tail _ hp))))))⟩⟩⟩⟩⟩))
theorem cut_at3 {α : Type} {M : Model} {A : Around} {t : Sem α} {Q : α → Shared → Prop} {E : Value → Shared → Prop} {s : Shared} {c1 c2 c3 : Addr × Obj} {mb : Str → Option Value} {X : Prop} (P : Addr × Obj → Addr × Obj → Addr × Obj → (Str → Option Value) → Heap → Nat → Prop)
    (main : Kept (∀ h tk, P c1 c2 c3 mb h tk → wpAny M A t Q E { s with heap := h, toks := tk }) → X) (pf : ∀ h tk, P c1 c2 c3 mb h tk → wpAny M A t Q E { s with heap := h, toks := tk }) : X := main ⟨pf⟩
/-- how things stand when the rows are gone through -/
def RestP (P : Params) (g : Heap) (L Ds : Addr) (ys : List Value) (ds : List Sc) (own : List (Addr × Obj)) (p1 p2 p3 p4 p5 p6 c1 c2 c3 : Addr × Obj) (mb : Str → Option Value) (h : Heap) (_tk : Nat) : Prop :=
  ∃ Dm ms es rr, Fr g L h (fun y => if y = Str.ofString "more" then Option.some (Value.ref Dm) else mb y) ∧ News g L h ((Dm, listOf (List.toArray ms) 0) :: (Ds, LCg.lst ys) :: p1 :: p2 :: p3 :: p4 :: p5 :: p6 :: c1 :: c2 :: c3 :: rr) ∧
    ScansOn P (fun a o => (a, o) ∈ p1 :: p2 :: p3 :: p4 :: p5 :: p6 :: c1 :: c2 :: c3 :: rr) ms es ∧ es.length ≤ 8 ∧ ScansOn P (fun a o => (a, o) ∈ rr) ys ds ∧ ∀ p ∈ own, p ∈ rr
theorem rest_2 {h₀ h : Heap} {L : Addr} {Dm li src q p1 p2 p3 p4 p5 p6 c1 c2 c3 : Addr × Obj} {rr : List (Addr × Obj)} (N : News h₀ L h (Dm :: li :: src :: q :: p1 :: p2 :: p3 :: p4 :: p5 :: p6 :: c1 :: c2 :: c3 :: rr)) : News h₀ L h (Dm :: q :: p1 :: p2 :: p3 :: p4 :: p5 :: p6 :: c1 :: c2 :: c3 :: rr) :=
  news_sub N fun p hp => (List.mem_cons.mp hp).elim (fun e => e ▸ .head _) fun hp => .tail _ (.tail _ (.tail _ hp))
theorem rest_1 {h₀ h : Heap} {L : Addr} {Dm li src D1 q p1 p2 p3 p4 p5 p6 c1 c2 c3 : Addr × Obj} {rr : List (Addr × Obj)} (N : News h₀ L h (Dm :: li :: src :: D1 :: q :: p1 :: p2 :: p3 :: p4 :: p5 :: p6 :: c1 :: c2 :: c3 :: rr)) : News h₀ L h (Dm :: q :: p1 :: p2 :: p3 :: p4 :: p5 :: p6 :: c1 :: c2 :: c3 :: rr) :=
  news_sub N fun p hp => (List.mem_cons.mp hp).elim (fun e => e ▸ .head _) fun hp => .tail _ (.tail _ (.tail _ (.tail _ hp)))
theorem led_pull3 {h₀ h : Heap} {L : Addr} {a b src : Addr × Obj} {r : List (Addr × Obj)} (N : News h₀ L h (a :: b :: src :: r)) : News h₀ L h (src :: a :: r) :=
  news_sub N fun p hp => by
    simp only [List.mem_cons] at hp ⊢
    rcases hp with h | h | h <;> simp [h]
theorem led_prune3 {h₀ h : Heap} {L l3 : Addr} {o3 : Obj} {De Dm Ds : Addr × Obj} {r : List (Addr × Obj)} (N : News h₀ L h ((l3, o3) :: De :: Dm :: Ds :: r)) (hl : AllLt l3 (De :: Dm :: Ds :: r)) :
    News h₀ L h ((l3, o3) :: Ds :: Dm :: De :: r) ∧ ∀ q ∈ (Ds :: Dm :: De :: r), @Ne Nat q.1 l3 := by
  have sub : ∀ p ∈ (Ds :: Dm :: De :: r), p ∈ (De :: Dm :: Ds :: r) := fun p hp => by
    simp only [List.mem_cons] at hp ⊢
    rcases hp with h | h | h | h <;> simp [h]
  exact ⟨news_sub N fun p hp => (List.mem_cons.mp hp).elim (fun e => e ▸ .head _) fun hp => .tail _ (sub p hp), fun q hq => lt_all N hl q (sub q hq)⟩
theorem w6_on {P : Params} {h₀ h : Heap} {L : Addr} {q a1 a2 a3 p1 p2 p3 p4 p5 p6 : Addr × Obj} {r : List (Addr × Obj)} {v : Value} {d : Sc} (_ : News h₀ L h (q :: a1 :: a2 :: a3 :: p1 :: p2 :: p3 :: p4 :: p5 :: p6 :: r)) (hW : ScanOn P (fun a o => (a, o) ∈ [p1, p2, p3, p4, p5, p6]) v d) :
    ScanOn P (fun a o => (a, o) ∈ a1 :: a2 :: a3 :: p1 :: p2 :: p3 :: p4 :: p5 :: p6 :: r) v d := hW.mono fun _ _ h => .tail _ (.tail _ (.tail _ (in6 h)))
theorem f6_on {P : Params} {h₀ h : Heap} {L : Addr} {q a1 a2 a3 p1 p2 p3 p4 p5 p6 : Addr × Obj} {r : List (Addr × Obj)} {v : Value} {many : Nat} {n : Int} (_ : News h₀ L h (q :: a1 :: a2 :: a3 :: p1 :: p2 :: p3 :: p4 :: p5 :: p6 :: r)) (hF : FrameOn P (fun a o => (a, o) ∈ [p1, p2, p3, p4, p5, p6]) v many n) :
    FrameOn P (fun a o => (a, o) ∈ a1 :: a2 :: a3 :: p1 :: p2 :: p3 :: p4 :: p5 :: p6 :: r) v many n := hF.mono fun _ _ h => .tail _ (.tail _ (.tail _ (in6 h)))
end
section
theorem OptAre.eqAt {A : Around} {s : Shared} {vs ws : List Value} {os : List (Option Int)} (h : OptAre vs os) (k : OptAre ws os) : ∀ (j : Nat) (h1 : j < vs.length) (h2 : j < ws.length), SeqAt.EqAt A s vs[j] ws[j] true := by
  induction h generalizing ws with
  | nil => intro j h1; simp at h1
  | none _ ih =>
    cases k with
    | none k =>
      intro j h1 h2
      cases j with
      | zero => exact SeqAt.EqAt.same _
      | succ j => exact ih k j (by simpa using h1) (by simpa using h2)
  | @int vs os a a' t e _ ih =>
    cases k with
    | @int ws _ b _ u e' k =>
      intro j h1 h2
      cases j with
      | zero =>
        subst e
        subst e'
        have z := SeqAt.EqAt.int_int (A := A) (s := s) b t b u
        rw [beq_self_eq_true] at z
        exact z
      | succ j => exact ih k j (by simpa using h1) (by simpa using h2)
theorem opt_ne {prog : Program} {w : World} {A : Around} {E : Value → Shared → Prop} {s : Shared} {a b : Addr} {vs ws : List Value} {os : List (Option Int)} {Q : Value → Shared → Prop} (ha : s.heap.IsList a vs.toArray) (hb : s.heap.IsList b ws.toArray) (h1 : OptAre vs os) (h2 : OptAre ws os) (hu : A.units < cLine)
    (h : Q (.bool false) s) : wpAny (model prog w) A (compareOp .NotEq (.ref a) (.ref b)) Q E s := by
  have key : SeqAt.RcNeAt A s (.ref a) (.ref b) (!(List.range vs.toArray.size).all fun _ => true) :=
    SeqAt.RcNeAt.lists ha hb (by simp only [List.size_toArray]; rw [h1.length, h2.length]) hu fun j j1 j2 => by
      have z := OptAre.eqAt (A := A.in1) (s := s) h1 h2 j (by simpa using j1) (by simpa using j2)
      simpa using z
  have e : (!(List.range vs.toArray.size).all fun _ => true) = false := by simp
  rw [e] at key
  show wpAny _ _ (richCompare .NotEq (.ref a) (.ref b)) Q E s
  exact key prog w E Q h
section
variable {prog : Program} {w : World} {A : Around} {h₀ : Heap} {L : Addr} {m : Str → Option Value} {env : Env} {elt : Expr} {x x₂ : Str} {scope : Scope} {cl : List (Str × Addr)} {s : Shared} {S : List (Addr × Obj) → Prop} {P : Nat → Value → Prop} {Fin : List Value → List (Addr × Obj) → Prop} {news : List (Addr × Obj)}
/-- a comprehension over pairs, by what holds of what was made so far and of the ledger -/
theorem compP_inv {n : Nat} (I : Nat → List Value → List (Addr × Obj) → Prop) (h0 : I 0 [] news)
    (turn : ∀ i ys nw v, i < n → I i ys nw → P i v → ∃ (t : Addr) (ot : Obj) (v₁ v₂ : Value) (nt : Nat), v = .ref t ∧ (t, ot) ∈ nw ∧ ot.cls = .type "tuple" ∧ ot.data = .seq #[v₁, v₂] nt ∧
      ∀ J oJ C oC D m₂ h tk (E' : Value → Shared → Prop), LCg.NsObj oC m₂ → m₂ x = some v₁ → m₂ x₂ = some v₂ → Fr h₀ L h m → News h₀ L h ((J, oJ) :: (C, oC) :: (D, LCg.lst ys) :: nw) → LCg.Off3 J C D nw → ((@Ne Nat J C) ∧ (@Ne Nat J D) ∧ (@Ne Nat C D)) →
      wpAny (model prog w) A (eval elt (compEnvC scope cl C env)) (LCg.CompEnd h₀ L m { s with heap := h, toks := tk } J oJ C oC D (LCg.lst ys) S (fun y nw' => I (i + 1) (ys ++ [y]) nw')) E' { s with heap := h, toks := tk })
    (fin : ∀ ys nw, I n ys nw → Fin ys nw) : LCp.CompRestP prog w A h₀ L m env elt x x₂ scope cl s S P Fin n 0 [] news := by
  have key : ∀ (j i : Nat) (ys : List Value) (nw : List (Addr × Obj)), i + j = n → I i ys nw → LCp.CompRestP prog w A h₀ L m env elt x x₂ scope cl s S P Fin j i ys nw := by
    intro j
    induction j with
    | zero =>
      intro i ys nw hi hI
      have e : i = n := by omega
      subst e
      exact LCp.CompRestP.zero (fin ys nw hI)
    | succ j ih =>
      intro i ys nw hi hI
      refine LCp.CompRestP.succ ?_
      intro v hv
      obtain ⟨t, ot, v₁, v₂, nt, h1, h2, h3, h4, k⟩ := turn i ys nw v (by omega) hI hv
      refine ⟨t, ot, v₁, v₂, nt, h1, h2, h3, h4, ?_⟩
      intro J oJ C oC D m₂ h tk E' hC hx hy F N off ne
      refine wpAny_mono (k J oJ C oC D m₂ h tk E' hC hx hy F N off ne) (fun y s₃ hr => ?_) fun _ _ e => e
      obtain ⟨h', tk', nw', e, F', N', off', hS, hI'⟩ := hr
      exact ⟨h', tk', nw', e, F', N', off', hS, ih (i + 1) _ nw' (by omega) hI'⟩
  exact key n 0 [] news (by omega) h0
end
/-- the places that are asked for -/
noncomputable def askL : List (Int × Int) := [(1, 0), (0, 1), (0, 2), (1, 1), (2, 0)]
/-- the comprehension of the ranks: what is so far -/
def RaInv (nw₀ : List (Addr × Obj)) (n : Int) (i : Nat) (ys : List Value) (nw : List (Addr × Obj)) : Prop := nw = nw₀ ∧ OptAre ys ((askL.take i).map fun p => rankO n.toNat p.1 p.2)
theorem tups5 {h₀ h : Heap} {L lt t1 t2 t3 t4 t5 : Addr} {olt : Obj} {a1 b1 a2 b2 a3 b3 a4 b4 a5 b5 : Tok} {n1 n2 n3 n4 n5 : Nat} {r : List (Addr × Obj)}
    (_ : News h₀ L h ((lt, olt) :: (t5, ({ cls := .type "tuple", data := .seq #[.int 2 a5, .int 0 b5] n5 } : Obj)) :: (t4, ({ cls := .type "tuple", data := .seq #[.int 1 a4, .int 1 b4] n4 } : Obj)) :: (t3, ({ cls := .type "tuple", data := .seq #[.int 0 a3, .int 2 b3] n3 } : Obj)) :: (t2, ({ cls := .type "tuple", data := .seq #[.int 0 a2, .int 1 b2] n2 } : Obj)) :: (t1, ({ cls := .type "tuple", data := .seq #[.int 1 a1, .int 0 b1] n1 } : Obj)) :: r)) :
    TupsAre ((lt, olt) :: (t5, ({ cls := .type "tuple", data := .seq #[.int 2 a5, .int 0 b5] n5 } : Obj)) :: (t4, ({ cls := .type "tuple", data := .seq #[.int 1 a4, .int 1 b4] n4 } : Obj)) :: (t3, ({ cls := .type "tuple", data := .seq #[.int 0 a3, .int 2 b3] n3 } : Obj)) :: (t2, ({ cls := .type "tuple", data := .seq #[.int 0 a2, .int 1 b2] n2 } : Obj)) :: (t1, ({ cls := .type "tuple", data := .seq #[.int 1 a1, .int 0 b1] n1 } : Obj)) :: r)
      [.ref t1, .ref t2, .ref t3, .ref t4, .ref t5] askL := by
  refine .cons (n := n1) (.tail _ (.tail _ (.tail _ (.tail _ (.tail _ (.head _)))))) ?_
  refine .cons (n := n2) (.tail _ (.tail _ (.tail _ (.tail _ (.head _))))) ?_
  refine .cons (n := n3) (.tail _ (.tail _ (.tail _ (.head _)))) ?_
  refine .cons (n := n4) (.tail _ (.tail _ (.head _))) ?_
  exact .cons (n := n5) (.tail _ (.head _)) .nil
theorem rk_bounds {i : Nat} {b e : Int} (h : askL[i]? = some (b, e)) : 0 ≤ b ∧ b ≤ 2 ∧ 0 ≤ e ∧ e ≤ 2 := by
  have z : ∀ p ∈ askL, 0 ≤ p.1 ∧ p.1 ≤ 2 ∧ 0 ≤ p.2 ∧ p.2 ≤ 2 := by decide
  exact z _ (List.mem_of_getElem? h)
theorem rk_step {n : Int} {i : Nat} {b e : Int} {ys : List Value} {v : Value} (hys : OptAre ys ((askL.take i).map fun p => rankO n.toNat p.1 p.2)) (hv : OptAre [v] [rankO n.toNat b e]) (h : askL[i]? = some (b, e)) :
    OptAre (ys ++ [v]) ((askL.take (i + 1)).map fun p => rankO n.toNat p.1 p.2) := by
  rw [List.take_add_one, h, List.map_append]
  exact hys.append hv
theorem rk_all {n : Int} (hn : 1 ≤ n ∧ n ≤ 4) {ys : List Value} (hys : OptAre ys ((askL.take 5).map fun p => rankO n.toNat p.1 p.2)) : OptAre ys (guessL n) := by
  have z := ranks_guess n.toNat (by omega) (by omega)
  have e : ((n.toNat : Nat) : Int) = n := by omega
  rw [e] at z
  rw [← z]
  exact hys
theorem ra_start {n : Int} (_ : 1 ≤ n ∧ n ≤ 4) (nw : List (Addr × Obj)) : RaInv nw n 0 [] nw := ⟨rfl, .nil⟩
theorem law_end {h₀ h : Heap} {L c1 c2 c3 : Addr} {o1 o2 o3 : Obj} {v1 v2 v3 : Option Value} {q a1 a2 a3 a4 a5 a6 a7 a8 a9 : Addr × Obj} {rr : List (Addr × Obj)} (i : Nat) (_ : News h₀ L h (q :: a1 :: a2 :: a3 :: a4 :: a5 :: a6 :: a7 :: a8 :: a9 :: (c1, o1) :: (c2, o2) :: (c3, o3) :: rr))
    (d1 : o1.data = .cell v1) (d2 : o2.data = .cell v2) (d3 : o3.data = .cell v3) : LwInv c1 c2 c3 i [(c1, o1), (c2, o2), (c3, o3)] := ⟨_, _, _, _, _, _, rfl, d1, d2, d3⟩
end
section
local macro_rules | `(tactic| walk_at "exec For Name") => `(tactic| (k_here; (rename Fr _ _ _ _ => lF'); (with_unfolding_all refine' For_invVF lF' ?k1 ?k2 ?_; (case k1 => exact rfl); (case k2 => exact rfl); k_whole)))
local macro_rules | `(tactic| walk_at "exec For Name Name cons nil") => `(tactic| walk_at "exec For Name")
local macro_rules | `(tactic| walk_at "exec For Name Call cons nil") => `(tactic| walk_at "exec For Name")
local macro_rules | `(tactic| walk_at "pyIter ref") => `(tactic| ((with_reducible show wpAny _ _ (pyIter (Value.ref _)) (fun it s₂ => LoopAtV _ _ _ _ _ _ _ _ _ it s₂) _ _); refine stop_of ?_))
local macro_rules | `(tactic| walk_at "InvEndN") => `(tactic| refine stop_of ?_)
local macro_rules | `(tactic| k_all) => `(tactic| assumption)
local macro_rules | `(tactic| walk_at "exec For Name List cons nil") => `(tactic| walk_at "exec For Name")
local macro_rules | `(tactic| walk_at "binaryOp Add ref ref") => `(tactic| (k_here; (with_reducible show wpAny _ _ (binaryOp _ (Value.ref _) (Value.ref _)) _ _ _); k_dflt (refine' cat_use ?F ?N ?a ?b ?z ?_; (case F => k_asm); (case N => k_asm); (case a => exact news_isList (by k_asm) (by k_mem)); (case b => exact news_isList (by k_asm) (by k_mem)); (case z => (rw [PySem.sizeLine_eq]; (try simp only [List.length_cons, List.length_nil, List.length_append]); omega)); k_whole); intro D' h' F' N' l1; (try k_lt l1); (try k_sweep)))
local macro_rules | `(tactic| k_all) => `(tactic| first | assumption | exact List.forall_mem_nil _ | (refine' List.forall_mem_cons.mpr ⟨?ka1, ?ka2⟩; (case ka1 => k_ne); (case ka2 => k_all)))

local macro_rules | `(tactic| walk_at "CompSrc") => `(tactic| refine stop_of ?_)
local macro_rules | `(tactic| walk_at "CompSrcT") => `(tactic| refine stop_of ?_)
local macro_rules | `(tactic| walk_at "CompEnd") => `(tactic| refine stop_of ?_)
local macro_rules | `(tactic| walk_at "eval ListComp") => `(tactic| (k_here; lcp_look; k_dflt (refine' LCp.ListComp_P ?F ?c1 ?c2 ?c3 ?c4 ?c5 ?c6 ?c7 ?_ ?c8; (case F => k_asm); (case c1 => with_unfolding_all rfl); (case c2 => decide); (case c3 => rfl); (case c4 => decide); (case c5 => rfl); (case c6 => rfl); (case c7 => decide); (case c8 => intro _; rfl))))
local macro_rules | `(tactic| walk_at "SrcLP") => `(tactic| refine stop_of ?_)
local macro_rules | `(tactic| walk_at "compareOp NotEq ref ref") => `(tactic| ((with_reducible show wpAny _ _ (compareOp CmpOp.NotEq (Value.ref _) (Value.ref _)) _ _ _); refine stop_of ?_))
local macro_rules | `(tactic| walk_at "execs cons") => `(tactic| ((fail_if_success rename Kept _ => kp9); (with_reducible show wpAny _ _ (execs (Stmt.Assign [Expr.Name (PySem.Str.ofString "more") _] (Expr.BinOp (Expr.Name (PySem.Str.ofString "scans") _) _ _ _) _ :: _) _) _ _ _); refine stop_of ?_))
local macro_rules | `(tactic| walk_at "execs cons") => `(tactic| ((rename Kept _ => kp9); (with_reducible show wpAny _ _ (execs (Stmt.For (Expr.Name (PySem.Str.ofString "rows") _) _ _ _ _ :: _) _) _ _ _); refine stop_of ?_))
set_option maxHeartbeats 16000000 in
theorem walk : TopWalk := topWalk_of rfl (by
  k_go0
  all_goals (try k_fold)
  k_steps
  rename World => w
  rename Shared => s₁
  rename IntsAre _ _ => hI
  rename Heap.IsList _ _ _ => hL
  rename ¬ _ < _ => hcond
  have hlen := IntsAre.length hI
  rename Below _ _ _ _ => K0
  have K1 := below_at hL K0
  clear K0
  unfold Stop
  refine rangeM (stored := [Str.ofString "frame", Str.ofString "scans", Str.ofString "whole", Str.ofString "more", Str.ofString "rows"]) (LwInv _ _ _) (by rfl) (by assumption) (small_one (by omega) (by omega) (by (repeat' split) <;> omega) (by (repeat' split) <;> omega)) (rangeSize_nat _ _) (by k_asm) (by k_asm) ⟨_, _, _, _, _, _, rfl, by assumption, by assumption, by assumption⟩ ?_ ?_
  · rintro i ti u nx h9 tk9 own hi - hoff ⟨o1, o2, o3, v1, v2, v3, rfl, d1, d2, d3⟩ F9 N9
    have hi3 : i ≤ 2 := by revert hi; (repeat' split) <;> intro hi <;> omega
    have e0 : (0 : Int) + (i : Int) = (i : Int) := Int.zero_add _
    rw [e0] at F9
    simp only [List.cons_append, List.nil_append] at N9
    have q1 := OwnOff.ne hoff (.head _)
    have q2 := OwnOff.ne hoff (.tail _ (.head _))
    have q3 := OwnOff.ne hoff (.tail _ (.tail _ (.head _)))
    clear hoff
    dsimp only at q1 q2 q3
    k_steps
    unfold Stop
    refine' pool_use ?k1 ?k2 ?k3 ?k4 ?k5 ?k6 ?kL ?kI ?k7 ?k8 ?k9 ?k10 ?k11 ?_
    case k1 => k_asm
    case k2 => k_asm
    case k3 => k_asm
    case k4 => k_asm
    case k5 => k_asm
    case k6 => first | exact rfl | assumption
    case kL => assumption
    case kI => assumption
    case k7 => first | assumption | omega
    case k8 => first | assumption | omega
    case k9 => omega
    case k10 => ktr_room
    case k11 => ktr_units
    intro src s0 t0 s1 t1 n0 h1 tk1 hs1 hD F1 N1
    simp only [List.forall_mem_cons] at hD
    obtain ⟨hD1, hD2, hD3, hD4⟩ := hD
    (try k_fold)
    k_steps
    rename _ ∈ ([2, 1, 3, 4] : List Int) => hn0
    have hn1 := n_bounds hn0
    have hnn := n_square hn1
    unfold Stop
    refine LCg.CompSrc.range (by rfl) (by k_asm) (by k_asm) (by assumption) (small_n (by omega) (by omega)) (rangeSize_nat _ _) (by rw [PySem.sizeLine_eq]; omega) ?_
    intro g9
    refine compU_inv (CmInv _) ⟨rfl, rfl⟩ ?_ ?_
    · rintro j ys nw v J oJ C oC D m₂ h9 tk9 E' hj ⟨rfl, hys⟩ ⟨t9, rfl⟩ hC9 hx9 F9 N9 off9 ne9
      have off9' := off9
      simp only [LCg.Off3, and_true] at off9'
      k_steps
      unfold Stop
      rename News _ _ _ _ => Nz
      exact LCg.CompEnd.intro (by assumption) (news_sub Nz (fun p hp => .tail _ (.tail _ hp))) _ (fun p hp => hp) off9 trivial ⟨rfl, by simp [hys]⟩
    · rintro cvs nw ⟨rfl, hcvs⟩
      obtain ⟨hcv3, hcvm, hcvt, hcvb, hcv1, hcv4⟩ := many_of (by assumption) (by assumption) hcvs
      k_steps
      unfold Stop
      rename News _ _ _ _ => Nz
      rename SrcOk _ _ => hsrc
      have Nr := led_pull Nz
      refine LCg.CompSrc.range (by rfl) (by k_asm) Nr (by assumption) (small_n (by omega) (by omega)) (rangeSize_nat _ _) (by rw [PySem.sizeLine_eq]; omega) ?_
      intro g9
      refine sc_comp w.params hsrc (by assumption) ?_ ?_
      · rintro j ys nw v J oJ C oC D m₂ h9 tk9 E' hj ⟨s0, t0, s1, t1, n0, rr, ds, hs, rfl, hds, how, hrr, hys⟩ ⟨t9, rfl⟩ hC9 hx9 F9 N9 off9 ne9
        have off9' := off9
        simp only [LCg.Off3, and_true] at off9'
        simp only [List.cons_append, List.nil_append] at N9
        k_steps
        unfold Stop
        refine' drawn_use ?k1 ?k2 ?k3 (led_rot N9) ?k5 rfl ?k6 hs ?k7 ?k8 hn1.1 hn1.2 ?k9 ?k10 ?_
        case k1 => k_asm
        case k2 => k_asm
        case k3 => k_asm
        case k5 => k_asm
        case k6 => k_all
        case k7 => first | assumption | omega
        case k8 => first | assumption | omega
        case k9 => ktr_room
        case k10 => ktr_units
        intro v tl d s0' t0' s1' t1' n' h' tk' hsc hs' h3 h4 F' N'
        refine sc_turn F' N' off9 h4 ⟨_, _, _, _, _, tl ++ rr, ds ++ [d], hs', rfl, (hds.mono fun a o h => List.mem_append_right _ h).append (.cons (hsc.mono fun a o h => List.mem_append_left _ h) .nil), fun p hp => List.mem_append_right _ (how p hp), fun p hp => (List.mem_append.mp hp).elim (h3 p) (hrr p), by simp; omega⟩
      · rintro ys nw ⟨s0, t0, s1, t1, n0, rr, ds, hs, rfl, hds, how, hrr, hys⟩
        have hy6 := le_six (by assumption) (by assumption) hys
        have hd6 : ds.length ≤ 6 := hds.length ▸ hy6
        clear hsrc
        unfold LCg.FinA
        intro Ds hD tkD FD ND oD
        simp only [List.cons_append, List.nil_append] at ND
        simp only [LCg.Off1, List.cons_append, List.nil_append] at oD
        k_steps
        unfold Stop
        rename News _ _ _ _ => NA
        rename SrcOk _ _ => hsA
        rename IntsAre _ (rangeKs _ _) => hIr
        refine at_A NA hIr ⟨by rw [rangeKs_length]; exact hcvt, by omega, by omega, by omega, by omega⟩ (by k_ne) (by k_ne) (by k_ne) (by k_ne) (by k_ne) (by k_ne) fun p1 p2 p3 p4 p5 p6 hW6 hF6 e1 e2 e3 e4 e5 e6 NB => ?_
        clear NA
        refine' cut_at3 (s := s₁) (RestP w.params s₁.heap s₁.heap.objs.size Ds ys ds own p1 p2 p3 p4 p5 p6) ?main ?pf
        case main =>
          intro key
          k_steps
          · unfold Stop
            rename News _ _ _ _ => Nz
            rename SrcOk _ _ => hs2
            refine' drawn_use ?k1 ?k2 ?k3 (led_pull3 Nz) ?k5 rfl ?k6 hs2 ?k7 ?k8 hn1.1 hn1.2 ?k9 ?k10 ?_
            case k1 => k_asm
            case k2 => k_asm
            case k3 => k_asm
            case k5 => k_asm
            case k6 => k_all
            case k7 => first | assumption | omega
            case k8 => first | assumption | omega
            case k9 => ktr_room
            case k10 => ktr_units
            intro dv tl d s0' t0' s1' t1' n' h' tk' hsc hs' h3 h4 F' N'
            have N2 := led_tail (fx := [_, _, _, _, _, _, _, _, _, _, _]) N'
            simp only [List.cons_append, List.nil_append] at N2
            clear N'
            obtain ⟨rr2, hrr2⟩ : ∃ rr2, rr2 = tl ++ rr := ⟨_, rfl⟩
            rw [← hrr2] at N2
            have how2 : ∀ p ∈ own, p ∈ rr2 := fun p hp => hrr2 ▸ List.mem_append_right _ (how p hp)
            have hds2 : ScansOn w.params (fun a o => (a, o) ∈ rr2) ys ds := hds.mono fun a o h => hrr2 ▸ List.mem_append_right _ h
            have hsc2 : ScanOn w.params (fun a o => (a, o) ∈ rr2) dv d := hsc.mono fun a o h => hrr2 ▸ List.mem_append_left _ h
            clear hrr2 h3 h4 hsc
            k_steps
            unfold Stop
            rename Kept _ => key
            rename Fr _ _ _ _ => F9
            rename News _ _ _ _ => Nz2
            exact key.out _ _ ⟨_, _, _, rr2, fr_dup F9, rest_1 Nz2, ((hds2.mono fun a o h => tail9 h).append (.cons (hW6.mono fun a o h => in6 h) .nil)).append (.cons (hsc2.mono fun a o h => tail9 h) .nil), by simp; omega, hds2, how2⟩
          · unfold Stop
            rename Kept _ => key
            rename Fr _ _ _ _ => F9
            rename News _ _ _ _ => Nz2
            exact key.out _ _ ⟨_, _, _, rr, F9, rest_2 Nz2, (hds.mono fun a o h => tail9 h).append (.cons (hW6.mono fun a o h => in6 h) .nil), by simp; omega, hds, how⟩
        case pf =>
          clear NB hds how hrr hsA e1 e2 e3 e4 e5 e6
          rintro h tk ⟨Dm, ms, es, rr2, F9, N9, hms, hel, hds2, how2⟩
          k_steps
          unfold Stop
          rename News _ _ _ _ => Nz2
          obtain ⟨Nk, hfr⟩ := led_prune3 Nz2 (by assumption)
          clear Nz2
          have hK1 := k1_on Nk hds2
          have hWh := w6_on Nk hW6
          have hFr := f6_on Nk hF6
          have hrows := rows_on Nk hK1 (hms.mono fun a o h => .tail _ (.tail _ (.tail _ h))) (by omega) (by omega)

          obtain ⟨nn, hq1, hq2, hq3⟩ := sq_nat hn1
          have hLw := law_end (i + 1) Nk (by assumption) (by assumption) (by assumption)
          refine heapM (stored := []) (RwInv _) (by rfl) (news_isList Nk (.head _)) (Nk _ (.head _)).2.1 hfr (by k_asm) (news_sub Nk fun p hp => .tail _ hp) rfl ?_ ?_
          · rintro i9 rv ru nx h7 tk7 own7 hrv - hoff7 rfl F7 N7
            obtain ⟨ra, rvs, rn, rds, rfl, hra, hrs, hrl⟩ := hrows rv (List.mem_of_getElem? hrv)
            have e1 := fin_whole rds cvs.length nn (scans_start hrs)
            rw [← hq1] at e1
            k_steps
            unfold Stop
            refine' fin_use ?k1 ?k2 ?k3 N7 ?k5 rfl (news_isList N7 (List.mem_append_left _ hra)) (hrs.mono fun a o h => List.mem_append_left _ h) (hFr.mono fun a o h => List.mem_append_left _ h) hrl ?k7 hn1.1 hn1.2 ?k9 ?k10 ?_
            case k1 => k_asm
            case k2 => k_asm
            case k3 => k_asm
            case k5 => k_asm
            case k7 => first | assumption | omega
            case k9 => ktr_room
            case k10 => ktr_units
            intro h6 tk6 F6 N6
            rw [e1]
            k_steps
            unfold Stop
            refine' lfin_use (many := cvs.length) ?k1 ?k2 ?k3 N6 ?k5 rfl (news_isList N6 (List.mem_append_left _ hra)) (hrs.mono fun a o h => List.mem_append_left _ h) ?k6 hq1 hrl ?k7 hn1.1 hn1.2 hq3 ?k9 ?k10 ?_
            case k1 => k_asm
            case k2 => k_asm
            case k3 => k_asm
            case k5 => k_asm
            case k6 => first | assumption | omega
            case k7 => first | assumption | omega
            case k9 => ktr_room
            case k10 => ktr_units
            intro h5 tk5 F5 N5
            generalize wholeB rds nn cvs.length 0 = bb
            cases bb
            all_goals k_steps
            all_goals (
              unfold Stop
              exact turn_end (by assumption) N5 rfl rfl (fun p hp => List.mem_append_left _ hp) (fun p hp => List.mem_append_right _ hp) same_turn)
          · rintro ru nx h7 tk7 - rfl F7 N7
            k_steps
            unfold Stop
            rename News _ _ _ _ => N8
            have e2 := last_fin (many := cvs.length) (nn := nn) hK1 hWh rfl (by dsimp only; omega) rfl (fun p hp => in_rangeKs _ _ (by omega))
            rw [← hq1] at e2
            refine' fin_use ?k1 ?k2 ?k3 N8 ?k5 rfl (news_isList N8 (.head _)) ((hK1.append (.cons hWh .nil)).mono fun a o h => .tail _ (.tail _ h)) (hFr.mono fun a o h => .tail _ (.tail _ h)) ?k6 ?k7 hn1.1 hn1.2 ?k9 ?k10 ?_
            case k1 => k_asm
            case k2 => k_asm
            case k3 => k_asm
            case k5 => k_asm
            case k6 => simp; omega
            case k7 => first | assumption | omega
            case k9 => ktr_room
            case k10 => ktr_units
            intro h6 tk6 F6 N6
            rw [e2]
            k_steps
            unfold Stop
            rename News _ _ _ _ => N10
            refine' guess_use ?k1 ?k2 ?k3 N10 ?k5 rfl hn1.1 hn1.2 ?k9 ?k10 ?_
            case k1 => k_asm
            case k2 => k_asm
            case k3 => k_asm
            case k5 => k_asm
            case k9 => ktr_room
            case k10 => ktr_units
            intro Dg gvs gk h5 tk5 hg hgf F5 N5
            k_steps
            unfold Stop
            rename News _ _ _ _ => N11
            have htups := tups5 N11
            refine LCp.SrcLP.ledger (by rfl) (by k_asm) N11 (.head _) (by rw [PySem.sizeLine_eq]; simp) ?_
            intro g11
            refine compP_inv (RaInv _ _) (ra_start hn1 _) ?_ ?_
            · rintro i8 ys8 nw8 v8 hi8 ⟨rfl, hys8⟩ hv8
              obtain ⟨t8, b8, e8, tb8, te8, nt8, rfl, hki, hmt⟩ := htups.get (i := i8) (v := v8) (by simpa using hv8)
              refine ⟨t8, _, _, _, _, rfl, hmt, rfl, rfl, ?_⟩
              intro J8 oJ8 C8 oC8 D8 m8 h8 tk8 E8 hC8 hx8 hy8 F8 N8' off8 ne8
              have hb := rk_bounds hki
              k_steps
              unfold Stop
              refine' rank_use ?k1 ?k2 ?k3 N8' ?k5 rfl hn1.1 hn1.2 hb.1 hb.2.1 hb.2.2.1 hb.2.2.2 ?k9 ?k10 ?_
              case k1 => k_asm
              case k2 => k_asm
              case k3 => k_asm
              case k5 => k_asm
              case k9 => ktr_room
              case k10 => ktr_units
              intro rv8 h4 tk4 hrv F4 N4
              exact LCg.CompEnd.intro F4 N4 _ (fun p hp => hp) off8 (Or.inr ⟨_, .head _, rfl, _, rfl⟩) ⟨rfl, rk_step hys8 hrv hki⟩
            · rintro ys8 nw8 ⟨rfl, hys8⟩
              have hg2 := rk_all hn1 hys8
              k_steps
              unfold Stop
              rename News _ _ _ _ => N12
              refine' opt_ne ?k1 ?k2 hg hg2 ?k3 ?_
              case k1 => exact news_isList N12 (by k_mem)
              case k2 => exact news_isList N12 (.head _)
              case k3 => ktr_units
              k_steps
              unfold Stop
              rename News _ _ _ _ => N13
              refine turn_end (by assumption) N13 hLw rfl (by k_allIn) (fun p hp => by
                have z := how2 p hp
                repeat (first | exact z | refine .tail _ ?_)) ?_
              repeat (first | exact same_turn | (refine same_set ?_ (by decide)) | (refine same_inner ?_ (by decide) (fun z h => by simp at h)))
  · rintro u nx h9 tk9 - ⟨o1, o2, o3, v1, v2, v3, rfl, d1, d2, d3⟩ F9 N9
    k_steps)
end
end
theorem hdT.tw10010845322139352627 : True := trivial
theorem hdT.tw1001932927927829641 : True := trivial
theorem hdT.tw10036917896950967397 : True := trivial
theorem hdT.tw1005338743208741551 : True := trivial
theorem hdT.tw10080614041577044238 : True := trivial
theorem hdT.tw10107192914230221782 : True := trivial
theorem hdT.tw1015662721845049221 : True := trivial
theorem hdT.tw10158975050279796663 : True := trivial
theorem hdT.tw1016409337160901120 : True := trivial
theorem hdT.tw10166195152394021702 : True := trivial
theorem hdT.tw10194237121763327897 : True := trivial
theorem hdT.tw10202071882699297223 : True := trivial
theorem hdT.tw10212826435615706971 : True := trivial
theorem hdT.tw10249303264208934864 : True := trivial
theorem hdT.tw10278784268148742078 : True := trivial
theorem hdT.tw10281885422764332917 : True := trivial
theorem hdT.tw10322692437255734812 : True := trivial
theorem hdT.tw10323790414895024552 : True := trivial
theorem hdT.tw103841106966163747 : True := trivial
theorem hdT.tw1041002507800964818 : True := trivial
theorem hdT.tw10413290030777078302 : True := trivial
theorem hdT.tw10428136857845229736 : True := trivial
theorem hdT.tw10439521527477894234 : True := trivial
theorem hdT.tw1046303050538599212 : True := trivial
theorem hdT.tw10468062072056533275 : True := trivial
theorem hdT.tw10475928700771966044 : True := trivial
theorem hdT.tw10512983876303221748 : True := trivial
theorem hdT.tw10515750818216680289 : True := trivial
theorem hdT.tw1053057342741277391 : True := trivial
theorem hdT.tw10544611178586225868 : True := trivial
theorem hdT.tw10572733635573505725 : True := trivial
theorem hdT.tw10618657522404741396 : True := trivial
theorem hdT.tw10619363654360093604 : True := trivial
theorem hdT.tw10637491067871093976 : True := trivial
theorem hdT.tw1066543892732998623 : True := trivial
theorem hdT.tw1066655907184155469 : True := trivial
theorem hdT.tw10711610238166011483 : True := trivial
theorem hdT.tw10734110473604000413 : True := trivial
theorem hdT.tw10734346761020631068 : True := trivial
theorem hdT.tw1075420501288489189 : True := trivial
theorem hdT.tw10759425804810152557 : True := trivial
theorem hdT.tw10765721606339117948 : True := trivial
theorem hdT.tw10775545438231040131 : True := trivial
theorem hdT.tw10865885875968670224 : True := trivial
theorem hdT.tw10868594059437301352 : True := trivial
theorem hdT.tw10937101298365751459 : True := trivial
theorem hdT.tw10988130239496037820 : True := trivial
theorem hdT.tw11001209747788500658 : True := trivial
theorem hdT.tw11015649899063884283 : True := trivial
theorem hdT.tw1102789012699053714 : True := trivial
theorem hdT.tw11048436554777996028 : True := trivial
theorem hdT.tw11131275715287355575 : True := trivial
theorem hdT.tw11199705531422776145 : True := trivial
theorem hdT.tw11217382035824116924 : True := trivial
theorem hdT.tw11286671869160983514 : True := trivial
theorem hdT.tw11317579533362982705 : True := trivial
theorem hdT.tw11400800689391800470 : True := trivial
theorem hdT.tw11427050489749338305 : True := trivial
theorem hdT.tw11435658123040128006 : True := trivial
theorem hdT.tw11437854503393051836 : True := trivial
theorem hdT.tw1145438229332021567 : True := trivial
theorem hdT.tw11458501801640361781 : True := trivial
theorem hdT.tw11459261865374864192 : True := trivial
theorem hdT.tw11487036344001518079 : True := trivial
theorem hdT.tw11541319093331784333 : True := trivial
theorem hdT.tw11542872704083187369 : True := trivial
theorem hdT.tw11550254677324453141 : True := trivial
theorem hdT.tw11613489809167172214 : True := trivial
theorem hdT.tw11624307389960985358 : True := trivial
theorem hdT.tw11636107060374798686 : True := trivial
theorem hdT.tw11673848817800129705 : True := trivial
theorem hdT.tw11680981566860643967 : True := trivial
theorem hdT.tw11687710423419705005 : True := trivial
theorem hdT.tw11714566110517299753 : True := trivial
theorem hdT.tw11735543557094715807 : True := trivial
theorem hdT.tw11747024902356852549 : True := trivial
theorem hdT.tw11755220345028815485 : True := trivial
theorem hdT.tw11756544793221312900 : True := trivial
theorem hdT.tw11757530532557608132 : True := trivial
theorem hdT.tw11759856159870746441 : True := trivial
theorem hdT.tw1176079322420180659 : True := trivial
theorem hdT.tw11786815773050827325 : True := trivial
theorem hdT.tw11805960059324406283 : True := trivial
theorem hdT.tw11921933945238363750 : True := trivial
theorem hdT.tw11976874915213706559 : True := trivial
theorem hdT.tw12016396987279823510 : True := trivial
theorem hdT.tw12033344195343221276 : True := trivial
theorem hdT.tw12038241232971039084 : True := trivial
theorem hdT.tw12078823273170598061 : True := trivial
theorem hdT.tw12079561201602305451 : True := trivial
theorem hdT.tw12097059370169897664 : True := trivial
theorem hdT.tw12097682857056489229 : True := trivial
theorem hdT.tw12153659471345884365 : True := trivial
theorem hdT.tw12163744985405934773 : True := trivial
theorem hdT.tw12194875641299781416 : True := trivial
theorem hdT.tw12214340855711000089 : True := trivial
theorem hdT.tw12217529378293269236 : True := trivial
theorem hdT.tw12279998229694318322 : True := trivial
theorem hdT.tw12293168118825579695 : True := trivial
theorem hdT.tw12301605705503117334 : True := trivial
theorem hdT.tw12313064947553493437 : True := trivial
theorem hdT.tw12320029094706313238 : True := trivial
theorem hdT.tw12332239120535128740 : True := trivial
theorem hdT.tw12351822775331109856 : True := trivial
theorem hdT.tw12360972160261386290 : True := trivial
theorem hdT.tw12367187599949045917 : True := trivial
theorem hdT.tw123686674118195260 : True := trivial
theorem hdT.tw12387774662352885974 : True := trivial
theorem hdT.tw12475268420717446649 : True := trivial
theorem hdT.tw12476784377090588212 : True := trivial
theorem hdT.tw12513107966257316912 : True := trivial
theorem hdT.tw12528596615628285788 : True := trivial
theorem hdT.tw12530120557820931060 : True := trivial
theorem hdT.tw12541584954729255465 : True := trivial
theorem hdT.tw12563112198918280810 : True := trivial
theorem hdT.tw12604221089893923323 : True := trivial
theorem hdT.tw12616172019080302470 : True := trivial
theorem hdT.tw12626607938501811000 : True := trivial
theorem hdT.tw12634102005968315378 : True := trivial
theorem hdT.tw12643286276921385653 : True := trivial
theorem hdT.tw12669503823874496449 : True := trivial
theorem hdT.tw12779001571807900022 : True := trivial
theorem hdT.tw12807591335219599141 : True := trivial
theorem hdT.tw12817492696408795699 : True := trivial
theorem hdT.tw12823683342366667648 : True := trivial
theorem hdT.tw1282731619024302628 : True := trivial
theorem hdT.tw12848851418496564332 : True := trivial
theorem hdT.tw1285798067458324753 : True := trivial
theorem hdT.tw12896701216255168246 : True := trivial
theorem hdT.tw12942645491533211748 : True := trivial
theorem hdT.tw12953295867854242429 : True := trivial
theorem hdT.tw12965636546680305311 : True := trivial
theorem hdT.tw12981684361872513027 : True := trivial
theorem hdT.tw12986058576653620508 : True := trivial
theorem hdT.tw13033090364233374832 : True := trivial
theorem hdT.tw13038914319371988265 : True := trivial
theorem hdT.tw13054363712787031859 : True := trivial
theorem hdT.tw13060595092114332330 : True := trivial
theorem hdT.tw13065430645502238488 : True := trivial
theorem hdT.tw13075672575759723129 : True := trivial
theorem hdT.tw1307998178567594954 : True := trivial
theorem hdT.tw1308745403456363181 : True := trivial
theorem hdT.tw13102114777984284480 : True := trivial
theorem hdT.tw13102605487479191858 : True := trivial
theorem hdT.tw13135032373196411520 : True := trivial
theorem hdT.tw13139216254927382609 : True := trivial
theorem hdT.tw13153322381789100428 : True := trivial
theorem hdT.tw13184737160273421960 : True := trivial
theorem hdT.tw13185223269041771558 : True := trivial
theorem hdT.tw13190432942527766312 : True := trivial
theorem hdT.tw13195987100727223770 : True := trivial
theorem hdT.tw13204161976637456802 : True := trivial
theorem hdT.tw13218149750968122468 : True := trivial
theorem hdT.tw13271241176467474704 : True := trivial
theorem hdT.tw1327509301673333715 : True := trivial
theorem hdT.tw13279870413759428154 : True := trivial
theorem hdT.tw13281160262870861691 : True := trivial
theorem hdT.tw13293429889846063270 : True := trivial
theorem hdT.tw13298019607888386524 : True := trivial
theorem hdT.tw13329559452079177445 : True := trivial
theorem hdT.tw13338845783058869467 : True := trivial
theorem hdT.tw13367441443243330751 : True := trivial
theorem hdT.tw13393872524155174026 : True := trivial
theorem hdT.tw13434923799626022156 : True := trivial
theorem hdT.tw13509012827295545684 : True := trivial
theorem hdT.tw13538150416244100956 : True := trivial
theorem hdT.tw13540566933179921179 : True := trivial
theorem hdT.tw13572087799763237570 : True := trivial
theorem hdT.tw1363381414463380569 : True := trivial
theorem hdT.tw13645143491626055617 : True := trivial
theorem hdT.tw13667648759157132173 : True := trivial
theorem hdT.tw13711046040431484001 : True := trivial
theorem hdT.tw13745481164612088859 : True := trivial
theorem hdT.tw13764317736034591790 : True := trivial
theorem hdT.tw1378004814817118474 : True := trivial
theorem hdT.tw13786714389439647722 : True := trivial
theorem hdT.tw13789881293592654387 : True := trivial
theorem hdT.tw13845363747457403913 : True := trivial
theorem hdT.tw13901490053756404744 : True := trivial
theorem hdT.tw13907023301156516989 : True := trivial
theorem hdT.tw13941434405423248975 : True := trivial
theorem hdT.tw13943718228407289568 : True := trivial
theorem hdT.tw13952589186035531799 : True := trivial
theorem hdT.tw13988915499686876603 : True := trivial
theorem hdT.tw14020171688309530123 : True := trivial
theorem hdT.tw14043705154278696030 : True := trivial
theorem hdT.tw14090391201014213105 : True := trivial
theorem hdT.tw14113409516418308985 : True := trivial
theorem hdT.tw14116893189291779112 : True := trivial
theorem hdT.tw14135771155940000022 : True := trivial
theorem hdT.tw14145074365520202611 : True := trivial
theorem hdT.tw14156971944580773197 : True := trivial
theorem hdT.tw14184987369404498229 : True := trivial
theorem hdT.tw1422925138140981434 : True := trivial
theorem hdT.tw14239289350908617314 : True := trivial
theorem hdT.tw14243908728459721612 : True := trivial
theorem hdT.tw1432046594818976388 : True := trivial
theorem hdT.tw14339686620797904987 : True := trivial
theorem hdT.tw14358304341664772782 : True := trivial
theorem hdT.tw14374489479828959890 : True := trivial
theorem hdT.tw14384018857657548324 : True := trivial
theorem hdT.tw14390980076652992266 : True := trivial
theorem hdT.tw14535055646236278548 : True := trivial
theorem hdT.tw14544301321182030741 : True := trivial
theorem hdT.tw14550229436542405152 : True := trivial
theorem hdT.tw14560644946258142183 : True := trivial
theorem hdT.tw14577063617963707951 : True := trivial
theorem hdT.tw14596787741471266818 : True := trivial
theorem hdT.tw14646731528478996707 : True := trivial
theorem hdT.tw14680936511344029933 : True := trivial
theorem hdT.tw14682451217626634541 : True := trivial
theorem hdT.tw14689110479457818338 : True := trivial
theorem hdT.tw1469108666565013507 : True := trivial
theorem hdT.tw14697747961488160826 : True := trivial
theorem hdT.tw14738332839276273773 : True := trivial
theorem hdT.tw14739110467874880269 : True := trivial
theorem hdT.tw14749652554219716343 : True := trivial
theorem hdT.tw14793636826967330735 : True := trivial
theorem hdT.tw14832296044313233530 : True := trivial
theorem hdT.tw14851777919923771231 : True := trivial
theorem hdT.tw14855939166130383842 : True := trivial
theorem hdT.tw14889336212933601618 : True := trivial
theorem hdT.tw14928136798684704974 : True := trivial
theorem hdT.tw14978029401855857091 : True := trivial
theorem hdT.tw15010457189144340986 : True := trivial
theorem hdT.tw15028613228254450480 : True := trivial
theorem hdT.tw15089131379500936453 : True := trivial
theorem hdT.tw15139554571385455295 : True := trivial
theorem hdT.tw1520117329010893095 : True := trivial
theorem hdT.tw15241406090431451857 : True := trivial
theorem hdT.tw15245239720828614882 : True := trivial
theorem hdT.tw15260663562296954404 : True := trivial
theorem hdT.tw15338273020528510402 : True := trivial
theorem hdT.tw15363033733867052640 : True := trivial
theorem hdT.tw15373800813920376587 : True := trivial
theorem hdT.tw15419372733056382389 : True := trivial
theorem hdT.tw1543731155930569881 : True := trivial
theorem hdT.tw15460788182947458201 : True := trivial
theorem hdT.tw15478290568897951882 : True := trivial
theorem hdT.tw15503024994843384373 : True := trivial
theorem hdT.tw15503895281595511207 : True := trivial
theorem hdT.tw15513460198188007025 : True := trivial
theorem hdT.tw1553361418407970481 : True := trivial
theorem hdT.tw15541911741645186728 : True := trivial
theorem hdT.tw15543842933211244073 : True := trivial
theorem hdT.tw15573197441692842753 : True := trivial
theorem hdT.tw15578045932945952825 : True := trivial
theorem hdT.tw15585351579074516767 : True := trivial
theorem hdT.tw1559350885289867682 : True := trivial
theorem hdT.tw15595976923621643440 : True := trivial
theorem hdT.tw15604690081134836391 : True := trivial
theorem hdT.tw15609716034131776777 : True := trivial
theorem hdT.tw15617995345080321057 : True := trivial
theorem hdT.tw15649314382953645090 : True := trivial
theorem hdT.tw15649738087625292210 : True := trivial
theorem hdT.tw1566920424647158498 : True := trivial
theorem hdT.tw15670875253111351066 : True := trivial
theorem hdT.tw15706192859081561822 : True := trivial
theorem hdT.tw1572057145254206533 : True := trivial
theorem hdT.tw15781415185009098019 : True := trivial
theorem hdT.tw15786061811284279205 : True := trivial
theorem hdT.tw1580787227658663736 : True := trivial
theorem hdT.tw15894074919283784595 : True := trivial
theorem hdT.tw15902368515024810717 : True := trivial
theorem hdT.tw15941966535906006232 : True := trivial
theorem hdT.tw15966169735260121141 : True := trivial
theorem hdT.tw15975467772437593770 : True := trivial
theorem hdT.tw15983779588726612320 : True := trivial
theorem hdT.tw15986589184504527592 : True := trivial
theorem hdT.tw15994309253796730768 : True := trivial
theorem hdT.tw15997896964119252480 : True := trivial
theorem hdT.tw16003616904477165510 : True := trivial
theorem hdT.tw16011116943481226359 : True := trivial
theorem hdT.tw1604004307016998346 : True := trivial
theorem hdT.tw16061927722193772204 : True := trivial
theorem hdT.tw16108318809565218085 : True := trivial
theorem hdT.tw16134883265113472841 : True := trivial
theorem hdT.tw16150095853827848020 : True := trivial
theorem hdT.tw16169267508442259383 : True := trivial
theorem hdT.tw16177888989005199918 : True := trivial
theorem hdT.tw16214489315169158900 : True := trivial
theorem hdT.tw16358887474051182817 : True := trivial
theorem hdT.tw16364119444717739325 : True := trivial
theorem hdT.tw16395373911868539363 : True := trivial
theorem hdT.tw16411160818834565329 : True := trivial
theorem hdT.tw16489284681867142615 : True := trivial
theorem hdT.tw16514091972170015177 : True := trivial
theorem hdT.tw16531870463292877737 : True := trivial
theorem hdT.tw16539148576436122313 : True := trivial
theorem hdT.tw16549196318746827350 : True := trivial
theorem hdT.tw16559897199988454135 : True := trivial
theorem hdT.tw16614067421052205742 : True := trivial
theorem hdT.tw16619460248487745004 : True := trivial
theorem hdT.tw16623138619976506330 : True := trivial
theorem hdT.tw16626288849920792520 : True := trivial
theorem hdT.tw16651234390879853358 : True := trivial
theorem hdT.tw16661676742480009506 : True := trivial
theorem hdT.tw16679067981958320292 : True := trivial
theorem hdT.tw16707821526901707475 : True := trivial
theorem hdT.tw16725842125655001164 : True := trivial
theorem hdT.tw16730996887124671439 : True := trivial
theorem hdT.tw167985071357648463 : True := trivial
theorem hdT.tw16808101064571166239 : True := trivial
theorem hdT.tw16899397432000394928 : True := trivial
theorem hdT.tw16911082514686179566 : True := trivial
theorem hdT.tw16948914098618018369 : True := trivial
theorem hdT.tw16987890369639669891 : True := trivial
theorem hdT.tw17008556930567598020 : True := trivial
theorem hdT.tw17035528155845151454 : True := trivial
theorem hdT.tw17072204627090435321 : True := trivial
theorem hdT.tw1710166738094517644 : True := trivial
theorem hdT.tw17110205108780911252 : True := trivial
theorem hdT.tw17154144827933080058 : True := trivial
theorem hdT.tw17155855487621836709 : True := trivial
theorem hdT.tw17204517880365750426 : True := trivial
theorem hdT.tw17212982446460151239 : True := trivial
theorem hdT.tw17274611573127296362 : True := trivial
theorem hdT.tw17278014667150443254 : True := trivial
theorem hdT.tw17279418265372097916 : True := trivial
theorem hdT.tw17281509130118850763 : True := trivial
theorem hdT.tw17323566721633243856 : True := trivial
theorem hdT.tw17370461868930270551 : True := trivial
theorem hdT.tw17419156074687965551 : True := trivial
theorem hdT.tw17456490922900562567 : True := trivial
theorem hdT.tw17460586045901743480 : True := trivial
theorem hdT.tw17484115831290457604 : True := trivial
theorem hdT.tw1759045066290804585 : True := trivial
theorem hdT.tw1760258660891434357 : True := trivial
theorem hdT.tw17603631647825564964 : True := trivial
theorem hdT.tw17615970304678335875 : True := trivial
theorem hdT.tw17644019301889704414 : True := trivial
theorem hdT.tw17666093417056562162 : True := trivial
theorem hdT.tw17684493538786419990 : True := trivial
theorem hdT.tw17732004547103332221 : True := trivial
theorem hdT.tw1776274062459803214 : True := trivial
theorem hdT.tw17840979056596484806 : True := trivial
theorem hdT.tw17850443551450840944 : True := trivial
theorem hdT.tw17873790006769355236 : True := trivial
theorem hdT.tw17943681747480410696 : True := trivial
theorem hdT.tw17990951745574838045 : True := trivial
theorem hdT.tw18097265767344203094 : True := trivial
theorem hdT.tw18100569989897730878 : True := trivial
theorem hdT.tw18135067806621036532 : True := trivial
theorem hdT.tw18138672634151941913 : True := trivial
theorem hdT.tw18142978766235501769 : True := trivial
theorem hdT.tw18146764690948789024 : True := trivial
theorem hdT.tw18157086518045136637 : True := trivial
theorem hdT.tw18168334755178658163 : True := trivial
theorem hdT.tw18190383041204214644 : True := trivial
theorem hdT.tw18227977749983114446 : True := trivial
theorem hdT.tw18238355898598786330 : True := trivial
theorem hdT.tw18241957777257879750 : True := trivial
theorem hdT.tw1830728938623689242 : True := trivial
theorem hdT.tw18310924211212023898 : True := trivial
theorem hdT.tw18323763663938697113 : True := trivial
theorem hdT.tw18339263457832828270 : True := trivial
theorem hdT.tw18402769245516950960 : True := trivial
theorem hdT.tw18403864235283672485 : True := trivial
theorem hdT.tw18425225725321503756 : True := trivial
theorem hdT.tw18431168122545246677 : True := trivial
theorem hdT.tw1843932490979021277 : True := trivial
theorem hdT.tw1892497086594246384 : True := trivial
theorem hdT.tw1923917731997800541 : True := trivial
theorem hdT.tw1948666990017201687 : True := trivial
theorem hdT.tw1959391839168329765 : True := trivial
theorem hdT.tw1965936428634566924 : True := trivial
theorem hdT.tw1994805565058289416 : True := trivial
theorem hdT.tw2013409472790794623 : True := trivial
theorem hdT.tw2026564882714474611 : True := trivial
theorem hdT.tw2027763147986355455 : True := trivial
theorem hdT.tw2047077231110316048 : True := trivial
theorem hdT.tw2097802629581862470 : True := trivial
theorem hdT.tw2110733675783530212 : True := trivial
theorem hdT.tw2132456725083282815 : True := trivial
theorem hdT.tw2139353334662462342 : True := trivial
theorem hdT.tw2141031780377652736 : True := trivial
theorem hdT.tw2152687164418267720 : True := trivial
theorem hdT.tw2159627914686711884 : True := trivial
theorem hdT.tw2178699043757754280 : True := trivial
theorem hdT.tw2187532262907252767 : True := trivial
theorem hdT.tw2195608335200427237 : True := trivial
theorem hdT.tw222358611838573069 : True := trivial
theorem hdT.tw2231793398430435732 : True := trivial
theorem hdT.tw2315787472201323137 : True := trivial
theorem hdT.tw2332166447756793472 : True := trivial
theorem hdT.tw2346434553980085496 : True := trivial
theorem hdT.tw2391073300771724814 : True := trivial
theorem hdT.tw2405699965061682348 : True := trivial
theorem hdT.tw2420845466144198696 : True := trivial
theorem hdT.tw2421974210947943896 : True := trivial
theorem hdT.tw2436422211977766078 : True := trivial
theorem hdT.tw2500981849052796069 : True := trivial
theorem hdT.tw2505971644642784869 : True := trivial
theorem hdT.tw2520595883203713878 : True := trivial
theorem hdT.tw2524514887380091968 : True := trivial
theorem hdT.tw2539720526774857002 : True := trivial
theorem hdT.tw2543978539304783637 : True := trivial
theorem hdT.tw2573676684247115121 : True := trivial
theorem hdT.tw2578351281817413193 : True := trivial
theorem hdT.tw2590165118902636919 : True := trivial
theorem hdT.tw2597303081884382771 : True := trivial
theorem hdT.tw2625485059379306636 : True := trivial
theorem hdT.tw2630498254398583971 : True := trivial
theorem hdT.tw2652420494882195381 : True := trivial
theorem hdT.tw2657588340156428226 : True := trivial
theorem hdT.tw2658370714684252078 : True := trivial
theorem hdT.tw2727673047806841075 : True := trivial
theorem hdT.tw2735428037448430824 : True := trivial
theorem hdT.tw2783002473615349720 : True := trivial
theorem hdT.tw2783956855398936025 : True := trivial
theorem hdT.tw279229455494635177 : True := trivial
theorem hdT.tw2806393524482611236 : True := trivial
theorem hdT.tw2847899997164225806 : True := trivial
theorem hdT.tw2857486579997302598 : True := trivial
theorem hdT.tw2873733111616625417 : True := trivial
theorem hdT.tw2888049423600391730 : True := trivial
theorem hdT.tw2897632379665089931 : True := trivial
theorem hdT.tw2921489290202636354 : True := trivial
theorem hdT.tw2951386002248001958 : True := trivial
theorem hdT.tw2959161835317433322 : True := trivial
theorem hdT.tw3015681194108742775 : True := trivial
theorem hdT.tw3048625272048801309 : True := trivial
theorem hdT.tw3055067098921867479 : True := trivial
theorem hdT.tw3075648315715463794 : True := trivial
theorem hdT.tw308856326611634325 : True := trivial
theorem hdT.tw3114665982151778685 : True := trivial
theorem hdT.tw3120113681926121877 : True := trivial
theorem hdT.tw3130026600693219103 : True := trivial
theorem hdT.tw3146396220367132296 : True := trivial
theorem hdT.tw3163186264296576149 : True := trivial
theorem hdT.tw3232902566179762624 : True := trivial
theorem hdT.tw3241106111546785190 : True := trivial
theorem hdT.tw3282193913366300933 : True := trivial
theorem hdT.tw3305749480084898945 : True := trivial
theorem hdT.tw3340316414879853702 : True := trivial
theorem hdT.tw3354442301435478463 : True := trivial
theorem hdT.tw3371308421928140668 : True := trivial
theorem hdT.tw3470672704688877459 : True := trivial
theorem hdT.tw3523916434977887104 : True := trivial
theorem hdT.tw355996382856560000 : True := trivial
theorem hdT.tw3623382836928382511 : True := trivial
theorem hdT.tw3661936358686036136 : True := trivial
theorem hdT.tw3680329325441293862 : True := trivial
theorem hdT.tw3691545737793461076 : True := trivial
theorem hdT.tw3714701706185320292 : True := trivial
theorem hdT.tw378083904730610894 : True := trivial
theorem hdT.tw3794940417139765988 : True := trivial
theorem hdT.tw3797174670451302332 : True := trivial
theorem hdT.tw3808180270531141879 : True := trivial
theorem hdT.tw3837135630182166146 : True := trivial
theorem hdT.tw3847893416258255458 : True := trivial
theorem hdT.tw3879365533040295601 : True := trivial
theorem hdT.tw3937244442570227343 : True := trivial
theorem hdT.tw3953179481644070144 : True := trivial
theorem hdT.tw3964741812652841094 : True := trivial
theorem hdT.tw4012522088078816110 : True := trivial
theorem hdT.tw4042970992223234270 : True := trivial
theorem hdT.tw4117183145614516387 : True := trivial
theorem hdT.tw4160381695852730747 : True := trivial
theorem hdT.tw4180767909326071356 : True := trivial
theorem hdT.tw4276992846007295418 : True := trivial
theorem hdT.tw4284608214837042114 : True := trivial
theorem hdT.tw4306564808082017633 : True := trivial
theorem hdT.tw4306714477624967827 : True := trivial
theorem hdT.tw4326596812911890447 : True := trivial
theorem hdT.tw4383407420157449125 : True := trivial
theorem hdT.tw4420862922631421675 : True := trivial
theorem hdT.tw446475844140859903 : True := trivial
theorem hdT.tw4476036477331449620 : True := trivial
theorem hdT.tw4478279841756930620 : True := trivial
theorem hdT.tw4478334040652372635 : True := trivial
theorem hdT.tw4487434557544995915 : True := trivial
theorem hdT.tw4527832340654653562 : True := trivial
theorem hdT.tw457585342618246847 : True := trivial
theorem hdT.tw4579577086566881272 : True := trivial
theorem hdT.tw4584557407448336657 : True := trivial
theorem hdT.tw4637192288282360748 : True := trivial
theorem hdT.tw4680045992198469983 : True := trivial
theorem hdT.tw4699266021141634843 : True := trivial
theorem hdT.tw4719937437743394932 : True := trivial
theorem hdT.tw4739688449450260099 : True := trivial
theorem hdT.tw476896764602719412 : True := trivial
theorem hdT.tw4799336707676368658 : True := trivial
theorem hdT.tw4805750459014103763 : True := trivial
theorem hdT.tw4826709780904878789 : True := trivial
theorem hdT.tw4860882504843640059 : True := trivial
theorem hdT.tw4870820990998705960 : True := trivial
theorem hdT.tw487194709873768154 : True := trivial
theorem hdT.tw4882206569832762009 : True := trivial
theorem hdT.tw4895140127428138000 : True := trivial
theorem hdT.tw4901701916038814030 : True := trivial
theorem hdT.tw4919105219394446106 : True := trivial
theorem hdT.tw5055731070195491554 : True := trivial
theorem hdT.tw5074628755499229793 : True := trivial
theorem hdT.tw5100337038175710370 : True := trivial
theorem hdT.tw512989020808680059 : True := trivial
theorem hdT.tw5144897212246035213 : True := trivial
theorem hdT.tw5151078855888670336 : True := trivial
theorem hdT.tw5153904615180192362 : True := trivial
theorem hdT.tw5165581774834855932 : True := trivial
theorem hdT.tw518114109976262218 : True := trivial
theorem hdT.tw5260378216028650820 : True := trivial
theorem hdT.tw542248526100295013 : True := trivial
theorem hdT.tw5429872173572285534 : True := trivial
theorem hdT.tw5476256833781881076 : True := trivial
theorem hdT.tw5493415599788509693 : True := trivial
theorem hdT.tw5502382909086503705 : True := trivial
theorem hdT.tw551490835370666823 : True := trivial
theorem hdT.tw5604596863259938530 : True := trivial
theorem hdT.tw5607320358360422370 : True := trivial
theorem hdT.tw5619491481767085419 : True := trivial
theorem hdT.tw5657525579230229757 : True := trivial
theorem hdT.tw5691128966781905093 : True := trivial
theorem hdT.tw5747501506443722968 : True := trivial
theorem hdT.tw5755368545809505600 : True := trivial
theorem hdT.tw5776241990557117223 : True := trivial
theorem hdT.tw5789553496708623366 : True := trivial
theorem hdT.tw5798720885741911428 : True := trivial
theorem hdT.tw5806034029871757836 : True := trivial
theorem hdT.tw5825364656412045018 : True := trivial
theorem hdT.tw5853876167621158507 : True := trivial
theorem hdT.tw5856148982977898499 : True := trivial
theorem hdT.tw5929152466802282115 : True := trivial
theorem hdT.tw5989770250344729309 : True := trivial
theorem hdT.tw6011456627351739823 : True := trivial
theorem hdT.tw6033919521562791155 : True := trivial
theorem hdT.tw6062054041289883069 : True := trivial
theorem hdT.tw6089881760442619883 : True := trivial
theorem hdT.tw6096052327025629822 : True := trivial
theorem hdT.tw6126834691248478450 : True := trivial
theorem hdT.tw6134002508673835281 : True := trivial
theorem hdT.tw614904304593535612 : True := trivial
theorem hdT.tw6150976936601723337 : True := trivial
theorem hdT.tw617269760308790182 : True := trivial
theorem hdT.tw6202413767264063158 : True := trivial
theorem hdT.tw6269800576724384367 : True := trivial
theorem hdT.tw6324740212330344277 : True := trivial
theorem hdT.tw6340907260889010371 : True := trivial
theorem hdT.tw6381563940363135200 : True := trivial
theorem hdT.tw6408363902074713917 : True := trivial
theorem hdT.tw6412721170132791065 : True := trivial
theorem hdT.tw6418923982407956075 : True := trivial
theorem hdT.tw6425414900942841285 : True := trivial
theorem hdT.tw6454614446495489824 : True := trivial
theorem hdT.tw6455760386348682736 : True := trivial
theorem hdT.tw6599119529455057934 : True := trivial
theorem hdT.tw660219271244974385 : True := trivial
theorem hdT.tw6628020113012296143 : True := trivial
theorem hdT.tw6646879331855590304 : True := trivial
theorem hdT.tw6683267451252391723 : True := trivial
theorem hdT.tw6690937501477351658 : True := trivial
theorem hdT.tw6712877469516756738 : True := trivial
theorem hdT.tw6722888759846166110 : True := trivial
theorem hdT.tw6735879728937818129 : True := trivial
theorem hdT.tw6739956485725728979 : True := trivial
theorem hdT.tw6841577446531214128 : True := trivial
theorem hdT.tw6889086249523499052 : True := trivial
theorem hdT.tw6909686524076739110 : True := trivial
theorem hdT.tw6955748858972044763 : True := trivial
theorem hdT.tw6975353774855479699 : True := trivial
theorem hdT.tw7039955194728326051 : True := trivial
theorem hdT.tw708045295726102117 : True := trivial
theorem hdT.tw7084950837047997198 : True := trivial
theorem hdT.tw7108597360084366280 : True := trivial
theorem hdT.tw7118430192128766453 : True := trivial
theorem hdT.tw7201601642792764949 : True := trivial
theorem hdT.tw7217518033528309941 : True := trivial
theorem hdT.tw7266376299009869524 : True := trivial
theorem hdT.tw7324589716685445584 : True := trivial
theorem hdT.tw7346947853037217097 : True := trivial
theorem hdT.tw7357894038608555523 : True := trivial
theorem hdT.tw7361712229594404225 : True := trivial
theorem hdT.tw7370714080064044178 : True := trivial
theorem hdT.tw7378758851455175208 : True := trivial
theorem hdT.tw7378976414268029503 : True := trivial
theorem hdT.tw7383831400874300713 : True := trivial
theorem hdT.tw7399340436763251304 : True := trivial
theorem hdT.tw7404225678548197383 : True := trivial
theorem hdT.tw7407133789760533946 : True := trivial
theorem hdT.tw7410480008539292383 : True := trivial
theorem hdT.tw7446868752821548868 : True := trivial
theorem hdT.tw7460648067218526814 : True := trivial
theorem hdT.tw7475871208913492162 : True := trivial
theorem hdT.tw7482193001858790077 : True := trivial
theorem hdT.tw7546123832575513691 : True := trivial
theorem hdT.tw7561044058177157300 : True := trivial
theorem hdT.tw7634598030205468963 : True := trivial
theorem hdT.tw7663180509135097439 : True := trivial
theorem hdT.tw7686422701275456138 : True := trivial
theorem hdT.tw7750204729614750717 : True := trivial
theorem hdT.tw7760847729004739588 : True := trivial
theorem hdT.tw776152709372847384 : True := trivial
theorem hdT.tw776734900397645373 : True := trivial
theorem hdT.tw7790660797244695241 : True := trivial
theorem hdT.tw7821696351181985426 : True := trivial
theorem hdT.tw7825484699456415615 : True := trivial
theorem hdT.tw7853958019229731579 : True := trivial
theorem hdT.tw7855729953441644567 : True := trivial
theorem hdT.tw7873442354669621758 : True := trivial
theorem hdT.tw7942171668155527442 : True := trivial
theorem hdT.tw7949111435810904832 : True := trivial
theorem hdT.tw7977824130624017432 : True := trivial
theorem hdT.tw8027916372720486466 : True := trivial
theorem hdT.tw8046985584504496282 : True := trivial
theorem hdT.tw8049430661905582836 : True := trivial
theorem hdT.tw8050950827777398048 : True := trivial
theorem hdT.tw8054727372441204377 : True := trivial
theorem hdT.tw8058740734964580546 : True := trivial
theorem hdT.tw8059042711464421741 : True := trivial
theorem hdT.tw8065493402013126719 : True := trivial
theorem hdT.tw8072592181832140243 : True := trivial
theorem hdT.tw8088496495341888229 : True := trivial
theorem hdT.tw8116751731055428168 : True := trivial
theorem hdT.tw8125986697966438625 : True := trivial
theorem hdT.tw816760262920538255 : True := trivial
theorem hdT.tw8173607700945315544 : True := trivial
theorem hdT.tw822856507448853781 : True := trivial
theorem hdT.tw824807754771498271 : True := trivial
theorem hdT.tw8259725323803305940 : True := trivial
theorem hdT.tw8268011843559966441 : True := trivial
theorem hdT.tw8287701665231782586 : True := trivial
theorem hdT.tw8296667696301474193 : True := trivial
theorem hdT.tw8317748790123228767 : True := trivial
theorem hdT.tw8343146700199848716 : True := trivial
theorem hdT.tw8344245260858803287 : True := trivial
theorem hdT.tw8346696010151329043 : True := trivial
theorem hdT.tw8404949597763912559 : True := trivial
theorem hdT.tw8420545781065954363 : True := trivial
theorem hdT.tw8425876010081677758 : True := trivial
theorem hdT.tw8448208942434106986 : True := trivial
theorem hdT.tw8472439999578884724 : True := trivial
theorem hdT.tw8503660711936515776 : True := trivial
theorem hdT.tw855168499411000503 : True := trivial
theorem hdT.tw8567503031727373547 : True := trivial
theorem hdT.tw8586098045395995821 : True := trivial
theorem hdT.tw8597674654162788304 : True := trivial
theorem hdT.tw8616971507025133447 : True := trivial
theorem hdT.tw8639440022213153879 : True := trivial
theorem hdT.tw8641585120534172112 : True := trivial
theorem hdT.tw8697609910814775846 : True := trivial
theorem hdT.tw8698424893286483627 : True := trivial
theorem hdT.tw8749434859236362604 : True := trivial
theorem hdT.tw8750652063840231740 : True := trivial
theorem hdT.tw8766941176648348281 : True := trivial
theorem hdT.tw8845853409719386050 : True := trivial
theorem hdT.tw8862904055507789325 : True := trivial
theorem hdT.tw8873467754133050205 : True := trivial
theorem hdT.tw8933809840192862964 : True := trivial
theorem hdT.tw8937378945868886277 : True := trivial
theorem hdT.tw8943506571587402987 : True := trivial
theorem hdT.tw8958366324690311949 : True := trivial
theorem hdT.tw9007937751257014164 : True := trivial
theorem hdT.tw9054821845631497969 : True := trivial
theorem hdT.tw905587528695013960 : True := trivial
theorem hdT.tw9063316141770240257 : True := trivial
theorem hdT.tw9068879478100896929 : True := trivial
theorem hdT.tw9083635313989964351 : True := trivial
theorem hdT.tw9084411662588796295 : True := trivial
theorem hdT.tw9095357839185793764 : True := trivial
theorem hdT.tw9100184902824156547 : True := trivial
theorem hdT.tw9119509293607635002 : True := trivial
theorem hdT.tw9194656507811511211 : True := trivial
theorem hdT.tw9227535465733522349 : True := trivial
theorem hdT.tw9257927824111913287 : True := trivial
theorem hdT.tw9261373375547743241 : True := trivial
theorem hdT.tw92803350260385714 : True := trivial
theorem hdT.tw9294019548499875384 : True := trivial
theorem hdT.tw9311056039789755042 : True := trivial
theorem hdT.tw9347353921567168070 : True := trivial
theorem hdT.tw9383755259358098369 : True := trivial
theorem hdT.tw938805452192909420 : True := trivial
theorem hdT.tw9389196833010162243 : True := trivial
theorem hdT.tw942146656244889080 : True := trivial
theorem hdT.tw9429051258219011899 : True := trivial
theorem hdT.tw9451025747531858059 : True := trivial
theorem hdT.tw9462271027950759041 : True := trivial
theorem hdT.tw9470199025548531795 : True := trivial
theorem hdT.tw9476022492007706598 : True := trivial
theorem hdT.tw9531525317723489367 : True := trivial
theorem hdT.tw9552418135779484783 : True := trivial
theorem hdT.tw9571535370773033377 : True := trivial
theorem hdT.tw960050848766937271 : True := trivial
theorem hdT.tw9605049027884111519 : True := trivial
theorem hdT.tw9626081196716337632 : True := trivial
theorem hdT.tw9655245656693899580 : True := trivial
theorem hdT.tw9699336115117729930 : True := trivial
theorem hdT.tw9736829806540214903 : True := trivial
theorem hdT.tw9761581780216786772 : True := trivial
theorem hdT.tw98075271140989712 : True := trivial
theorem hdT.tw9884355026049912583 : True := trivial
theorem hdT.tw9914334180009780790 : True := trivial
theorem hdT.tw9966396331570240342 : True := trivial
theorem hdT.tw9983460089433338982 : True := trivial
theorem hdT.tw9988109110853653462 : True := trivial
theorem hdT.tw9990210928843065123 : True := trivial
section
set_option Elab.async true in
set_option maxHeartbeats 8000000 in
theorem hdT : PySem.Challenge.rw_ok0138_01.Holds := by
  (w_on; o_law; k_head; (case hw => w_witness2); exact walk _ _ rfl)
end
end Mine

theorem PySem.Challenge.cw_ok0138_01_holds : PySem.Challenge.rw_ok0138_01.Holds :=
  Mine.hdT
