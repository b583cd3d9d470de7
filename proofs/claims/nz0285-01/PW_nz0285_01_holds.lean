import PyProof.Rows.All
import Wide.All
import OpenK.AllK
import Wide.FinOn
import PySem.Challenge.RW_nz0285_01
open PySem PySem.W PyProof.Rows
set_option Elab.async false
set_option maxRecDepth 100000
set_option maxHeartbeats 8000000
set_option compiler.extract_closed false
namespace Mine
noncomputable def hd.view : Program := { PySem.Challenge.pw_nz0285_01 with main := { PySem.Challenge.pw_nz0285_01.main with body := [0, 2, 3, 5, 6, 7, 8, 9, 10, 11, 12, 13, 14, 15, 16, 17, 18, 19, 21, 22, 23, 24].filterMap (fun i => PySem.Challenge.pw_nz0285_01.main.body[i]?) } }
/-- lays the program's fast twin -/
theorem lay_twin : PySem.Challenge.pw_nz0285_01.main.futureAnnotations.not = true := by k_qdec
theorem row_p : (OpenLaw.row PySem.Challenge.rw_nz0285_01).prog = PySem.Challenge.pw_nz0285_01 := by kernel_rfl
local macro_rules | `(tactic| o_head $H) => `(tactic| (refine holds_open (q := hd.view) (loose := [Str.ofString "PostError"]) (Xt := fun s => xlAt hd.view [] s && recOk (RowW.records (OpenRow.toRowW (OpenLaw.row PySem.Challenge.rw_nz0285_01))) s) (XP := XL hd.view []) (Yf := Hook.obs $H) (Ya := Hook.val $H) (YP := Hook.says $H) (N := 3238) ?hl (Hook.of $H) (Hook.keeps $H) (fun s e => xl_of s (Bool.and_eq_true_iff.mp e).1) XL.keeps (by rfl) (by rfl) (by rfl) (fun s e => recFacts_of (Bool.and_eq_true_iff.mp e).2) (by rfl) (by first | assumption | decide +kernel) (by decide +kernel) ⟨rfl, rfl, rfl, rfl, rfl, by decide +kernel⟩ ?hw ?hc; (case hl => (intro w; first | (unfold openEnds fencedOpening topFrom hd.view; rw [row_p, PySem.W.Fast.te2258088660266936766, PySem.W.Fast.te14082659384304107361, PySem.W.Fast.te14364793385576792824, PySem.W.Fast.te4187177175401517315, PySem.W.Fast.te10274390034422433532, PySem.W.Fast.te14289696077712309145, PySem.W.Fast.te1435165496053646825]; kernel_rfl) | kernel_rfl))))
open_top hd for PySem.Challenge.rw_nz0285_01
open PySem.Spec PySem.Calls

/-- the goal, held small while a pattern is taken apart -/
theorem shrink {P : Prop} (h : ∀ G : Prop, (P → G) → G) : P := h P id
/-- nothing of the ledger lies at this address -/
def Off (d : Addr) (news : List (Addr × Obj)) : Prop := ∀ p ∈ news, @Ne Nat p.1 d
def Above (news tl : List (Addr × Obj)) : Prop := ∀ q ∈ news, ∀ p ∈ tl, @LT.lt Nat _ q.1 p.1

/-- what a call of a def does, whatever the caller: it comes back with a value and a ledger of which Post holds -/
def Does (prog : Program) (w : World) (p : Program) (loose : List Str) (mean : ExcName → Option Value) (mg mb : Str → Option Value) (k : Nat) (f : Addr) (vs : List Value) (news : List (Addr × Obj)) (Post : Value → List (Addr × Obj) → Prop) : Prop :=
  ∀ (dp un : Nat) (gd : Option (List Code)) (cn : Str) (cs : Scope) (a : Addr) (ccd : Value) (cl : List (Str × Addr)) (outer : List Env) (A₀ : Around) (base h₀ : Heap) (L : Addr) (m : Str → Option Value) (s : Shared) (Q E : Value → Shared → Prop),
    Below A₀ base outer h₀ → Fr h₀ L s.heap m → (hd.heap_39 w.params).In h₀ → News h₀ L s.heap news → Top p loose mean mg mb h₀ → cs.kind = .function → dp + k < recursionLimit → un + 20 * k + 100 < cLine →
    (∀ r news' h' tk', Fr h₀ L h' m → News h₀ L h' news' → Post r news' → Q r { s with heap := h', toks := tk' }) →
    wpAny (model prog w) (ktrTop dp un gd cn cs L a ccd cl outer) (call (.ref f) vs) Q E s

abbrev boxD (P : Params) (t1 t2 t3 t4 t5 t6 t7 : Tok) (nm va nu top fl lt gn : Value) : Obj :=
  dictOf [⟨PyData.keyHash P (Str.ofString "name"), .str (Str.ofString "name") t1, nm⟩, ⟨PyData.keyHash P (Str.ofString "validity"), .str (Str.ofString "validity") t2, va⟩,
    ⟨PyData.keyHash P (Str.ofString "next_uid"), .str (Str.ofString "next_uid") t3, nu⟩, ⟨PyData.keyHash P (Str.ofString "top"), .str (Str.ofString "top") t4, top⟩,
    ⟨PyData.keyHash P (Str.ofString "floor"), .str (Str.ofString "floor") t5, fl⟩, ⟨PyData.keyHash P (Str.ofString "letters"), .str (Str.ofString "letters") t6, lt⟩,
    ⟨PyData.keyHash P (Str.ofString "gone"), .str (Str.ofString "gone") t7, gn⟩] 7

theorem offNe {d : Addr} {news : List (Addr × Obj)} (h : Off d news) : ∀ p ∈ news, p.1 ≠ d := h
theorem ltNe {d : Addr} {news : List (Addr × Obj)} (h : AllLt d news) : ∀ p ∈ news, p.1 ≠ d := fun p hp => Nat.ne_of_lt (ktn_ltOf h p hp)

theorem does_use {prog : Program} {w : World} {p : Program} {loose : List Str} {mean : ExcName → Option Value} {mg mb : Str → Option Value} {k : Nat} {f : Addr} {vs : List Value} {news : List (Addr × Obj)} {Post : Value → List (Addr × Obj) → Prop}
    {dp un : Nat} {gd : Option (List Code)} {cn : Str} {cs : Scope} {a : Addr} {ccd : Value} {cl : List (Str × Addr)} {outer : List Env} {A₀ : Around} {base h₀ : Heap} {L : Addr} {m : Str → Option Value} {s : Shared} {Q E : Value → Shared → Prop}
    (B : Below A₀ base outer h₀) (F : Fr h₀ L s.heap m) (X : (hd.heap_39 w.params).In h₀) (N : News h₀ L s.heap news) (T : Top p loose mean mg mb h₀) (hk : cs.kind = .function) (C : Does prog w p loose mean mg mb k f vs news Post)
    (hdp : dp + k < recursionLimit) (hun : un + 20 * k + 100 < cLine)
    (hret : ∀ r news' h' tk', Fr h₀ L h' m → News h₀ L h' news' → Post r news' → Q r { s with heap := h', toks := tk' }) :
    wpAny (model prog w) (ktrTop dp un gd cn cs L a ccd cl outer) (call (.ref f) vs) Q E s := C _ _ _ _ _ _ _ _ _ _ _ _ _ _ _ _ _ B F X N T hk hdp hun hret

theorem does_mono {prog : Program} {w : World} {p : Program} {loose : List Str} {mean : ExcName → Option Value} {mg mb : Str → Option Value} {k : Nat} {f : Addr} {vs : List Value} {news : List (Addr × Obj)} {Post Post' : Value → List (Addr × Obj) → Prop}
    (C : Does prog w p loose mean mg mb k f vs news Post) (h : ∀ r nx, Post r nx → Post' r nx) : Does prog w p loose mean mg mb k f vs news Post' := by
  unfold Does
  intro dp un gd cn cs a ccd cl outer A₀ base h₀ L m s Q E B F X N T hk hdp hun hret
  exact C _ _ _ _ _ _ _ _ _ _ _ _ _ _ _ _ _ B F X N T hk hdp hun fun r nx h' tk' F' N' hp => hret r nx h' tk' F' N' (h _ _ hp)

section
variable {prog : Program} {w : World} {A : Around} {E : Value → Shared → Prop} {s : Shared} {env : Env} {h₀ : Heap} {x : Str} {body : List Stmt} {Q : Flow → Shared → Prop}
abbrev Same (x : Str) (stored : List Str) (m₀ m : Str → Option Value) : Prop := ∀ z, z ≠ x → stored.contains z = false → m z = m₀ z
/-- behind a store of x the two ways to write the map are one -/
theorem same_map {stored : List Str} {m₀ m₁ : Str → Option Value} (hm : Same x stored m₀ m₁) (g : Str → Option Value) :
    (fun y => if y = x then g y else m₁ y) = fun y => if y = x then g y else if stored.contains y then m₁ y else m₀ y := funext fun y => by
  by_cases h : y = x ∨ stored.contains y = true
  · rcases h with h | h
    · rw [if_pos h, if_pos h]
    · rw [if_pos h]
  · obtain ⟨h1, h2⟩ := not_or.mp h
    rw [if_neg h1, if_neg h1, if_neg h2]
    exact hm y h1 (Bool.eq_false_iff.mpr h2)
theorem same_fr {stored : List Str} {m₀ m₁ : Str → Option Value} {v : Value} {L : Addr} {h : Heap} (hm : Same x stored m₀ m₁) (F : Fr h₀ L h (fun y => if y = x then some v else m₁ y)) :
    Fr h₀ L h (fun y => if y = x then some v else if stored.contains y then m₁ y else m₀ y) := Eq.mp (congrArg (Fr h₀ L h) (same_map hm fun _ => some v)) F
theorem same_here {stored : List Str} {m₀ u : Str → Option Value} {v : Value} : Same x stored m₀ (fun y => if y = x then some v else if stored.contains y then u y else m₀ y) := by
  intro z h1 h2
  simp only [if_neg h1, h2, Bool.false_eq_true, if_false]
theorem same_st {stored : List Str} {m₀ m : Str → Option Value} {y : Str} {v : Option Value} (hy : stored.contains y = true) (hm : Same x stored m₀ m) : Same x stored m₀ (fun z => if z = y then v else m z) := by
  intro z h1 h2
  by_cases h : z = y
  · rw [h, hy] at h2; cases h2
  · simp only [if_neg h]; exact hm z h1 h2
theorem same_out {stored : List Str} {m₀ m₁ : Str → Option Value} {L : Addr} {h : Heap} (hm : Same x stored m₀ m₁) (F : Fr h₀ L h m₁) :
    Fr h₀ L h (fun y => if y = x then m₁ y else if stored.contains y then m₁ y else m₀ y) := by
  rw [← same_map hm m₁]
  simpa only [ite_self] using F

/-- a turn that leaves the ledger as it was -/
theorem turn_still {L : Addr} {stored : List Str} {m₀ m' : Str → Option Value} {J' : List (Addr × Obj) → Prop} {q : Addr × Obj} {nx own news' : List (Addr × Obj)} {s₁ : Shared} {h' : Heap} {tk : Nat} (F : Fr h₀ L h' m') (N : News h₀ L h' news') (hs : ∀ p ∈ nx ++ own, p ∈ news')
    (ho : OwnOff own (nx.map (·.1))) (hl : q ∈ nx) (hj : J' nx) (hm : Same x stored m₀ m') : InvEndG h₀ L (fun m' nx' => q ∈ nx' ∧ J' nx' ∧ Same x stored m₀ m') own s₁ { s₁ with heap := h', toks := tk } :=
  ⟨h', tk, m', news', nx, rfl, F, N, fun p hp => hs p (List.mem_append.mpr (.inl hp)), fun p hp => hs p (List.mem_append.mpr (.inr hp)), ho, hl, hj, hm⟩

theorem turn_end {L : Addr} {stored : List Str} {m₀ m' : Str → Option Value} {J' : List (Addr × Obj) → Prop} {q : Addr × Obj} {own news' : List (Addr × Obj)} {s₁ : Shared} {h' : Heap} {tk : Nat} (nx : List (Addr × Obj)) (F : Fr h₀ L h' m') (N : News h₀ L h' news') (hs : ∀ p ∈ nx, p ∈ news') (ht : ∀ p ∈ own, p ∈ news')
    (ho : OwnOff own (nx.map (·.1))) (hl : q ∈ nx) (hj : J' nx) (hm : Same x stored m₀ m') : InvEndG h₀ L (fun m' nx' => q ∈ nx' ∧ J' nx' ∧ Same x stored m₀ m') own s₁ { s₁ with heap := h', toks := tk } :=
  ⟨h', tk, m', news', nx, rfl, F, N, hs, ht, ho, hl, hj, hm⟩
theorem sub1 {q : Addr × Obj} {a b : List (Addr × Obj)} : ∀ p ∈ q :: a, p ∈ q :: (a ++ b) := fun p hp => by
  rcases List.mem_cons.mp hp with rfl | hp
  · exact .head _
  · exact .tail _ (List.mem_append.mpr (.inl hp))
theorem sub3 {q r t : Addr × Obj} {a : List (Addr × Obj)} : ∀ p ∈ q :: a, p ∈ q :: r :: t :: a := fun p hp => by
  rcases List.mem_cons.mp hp with rfl | hp
  · exact .head _
  · exact .tail _ (.tail _ (.tail _ hp))
theorem sub1r {q : Addr × Obj} {a b : List (Addr × Obj)} : ∀ p ∈ b, p ∈ q :: (a ++ b) := fun _ hp => .tail _ (List.mem_append.mpr (.inr hp))
theorem strsAt : ∀ {vs : List Value} {fl : List Str} {i : Nat} {v : Value}, StrsAre vs fl → vs[i]? = some v → ∃ x t, v = .str x t ∧ fl[i]? = some x
  | _, _, _, _, .nil, h => by simp at h
  | _, _, 0, _, .cons x t _, h => ⟨x, t, (Option.some.inj h).symm, rfl⟩
  | _, _, i + 1, _, .cons x t r, h => by
    obtain ⟨y, u, e, h'⟩ := strsAt (i := i) r (by simpa using h)
    exact ⟨y, u, e, by simpa using h'⟩
theorem not_before {fl : List Str} {i : Nat} {x : Str} (hn : fl.Nodup) (hx : fl[i]? = some x) : (fl.take i).any (· == x) = false := by
  rw [List.any_eq_false]
  intro y hy e
  obtain rfl : y = x := by simpa using e
  obtain ⟨hi, e'⟩ := List.getElem?_eq_some_iff.mp hx
  obtain ⟨j, hj, e2⟩ := List.getElem_of_mem hy
  rw [List.getElem_take] at e2
  have hj' : j < i := by simp at hj; omega
  exact List.pairwise_iff_getElem.mp hn j i (by omega) hi hj' (by rw [e2, e'])

/-- a for over a list of the ledger, by what holds of the ledger behind i turns; the names that the body stores are forgotten -/
theorem loopU {l : Addr} {vs : List Value} {nn : Nat} {m₀ : Str → Option Value} {news : List (Addr × Obj)} (stored : List Str) (J : Nat → List (Addr × Obj) → Prop)
    (hh : A.handled = none) (hl : (l, listOf vs.toArray nn) ∈ news) (F : Fr h₀ env.locals s.heap m₀) (N : News h₀ env.locals s.heap news) (hj : J 0 news)
    (turn : ∀ i v (u : Str → Option Value) nx h tk own, vs[i]? = some v → OwnOff own (nx.map (·.1)) → (l, listOf vs.toArray nn) ∈ nx → J i nx →
      Fr h₀ env.locals h (fun y => if y = x then some v else if stored.contains y then u y else m₀ y) → News h₀ env.locals h (nx ++ own) →
      wpAny (model prog w) A (execs body env) (InvPostG h₀ env.locals (fun m' nx' => (l, listOf vs.toArray nn) ∈ nx' ∧ J (i + 1) nx' ∧ Same x stored m₀ m') own { s with heap := h, toks := tk } Q) E { s with heap := h, toks := tk })
    (done : ∀ (u : Str → Option Value) nx h tk, J vs.length nx → Fr h₀ env.locals h (fun y => if y = x then u y else if stored.contains y then u y else m₀ y) → News h₀ env.locals h nx → Q .next { s with heap := h, toks := tk }) :
    wpAny (model prog w) A (pyIter (.ref l)) (fun it s₂ => LoopAtV prog w A h₀ env x body Q E it s₂) E s := by
  refine kdl_iter (fun i m nx => J i nx ∧ Same x stored m₀ m) hh hl F N ⟨hj, fun _ _ _ => rfl⟩ ?_ ?_
  · rintro i v m₁ nx h tk own hv hoff hl' ⟨hJ, hm⟩ F₁ N₁
    exact turn i v m₁ nx h tk own hv hoff hl' hJ (same_fr hm F₁) N₁
  · rintro m₁ nx h tk ⟨hJ, hm⟩ F₁ N₁
    exact done m₁ nx h tk hJ (same_out hm F₁) N₁

/-- a for whose iterator I stands beside its source ax, an object of the ledger -/
theorem loopAx {I ax : Addr} {oax : Obj} {n : Nat} {P : Nat → Value → Prop} {St : Nat → Heap → Prop} {m₀ : Str → Option Value} {news : List (Addr × Obj)} (J : Nat → (Str → Option Value) → List (Addr × Obj) → Prop)
    (W : Walks prog w A I [I, ax] [I] n P St) (hob : ∀ i h, St i h → ∃ o, h.get? I = some o) (hst : St 0 s.heap) (hL : env.locals ≠ I) (hI : h₀.get? I = none) (hnI : ∀ p ∈ news, p.1 ≠ I)
    (hl : (ax, oax) ∈ news) (F : Fr h₀ env.locals s.heap m₀) (N : News h₀ env.locals s.heap news) (hj : J 0 m₀ news)
    (turn : ∀ i v m₁ nx h tk own, i < n → P i v → OwnOff own (nx.map (·.1)) → (ax, oax) ∈ nx → J i m₁ nx → Fr h₀ env.locals h (fun y => if y = x then some v else m₁ y) → News h₀ env.locals h (nx ++ own) →
      wpAny (model prog w) A (execs body env) (InvPostG h₀ env.locals (fun m' nx => (ax, oax) ∈ nx ∧ J (i + 1) m' nx) own { s with heap := h, toks := tk } Q) E { s with heap := h, toks := tk })
    (done : ∀ m₁ nx h tk, J n m₁ nx → Fr h₀ env.locals h m₁ → News h₀ env.locals h nx → Q .next { s with heap := h, toks := tk }) :
    LoopAtV prog w A h₀ env x body Q E (.ref I) s := by
  refine ⟨I, _, _, n, P, St, m₀, news, fun i m nx => (ax, oax) ∈ nx ∧ J i m nx, rfl, W, ?_, ?_, ?_, hst, F, N, ⟨hl, hj⟩, ?_, ?_⟩
  · intro hm
    rcases List.mem_cons.mp hm with e | hm
    · exact hL e
    · exact (N _ hl).2.1 (List.mem_singleton.mp hm).symm
  · intro b hb
    rw [List.mem_singleton.mp hb]
    exact hI
  · intro p hp hq
    exact hnI p hp (List.mem_singleton.mp hq)
  · rintro i v m₁ nx s₁ own ⟨h1, t1, rfl⟩ hi hv ⟨hm, hJ⟩ hoff hown hget hall hS F₁ N₁
    obtain ⟨oI, eI⟩ := hob _ _ hS
    have hax : h1.get? ax = some oax := (N₁ _ (List.mem_append.mpr (.inr hm))).1
    have hI1 : (I, oI) ∈ own := hall I (.head _) hI oI eI
    have key : ∀ p ∈ own, p = (I, oI) ∨ p = (ax, oax) := by
      intro p hp
      have hg := hget p hp
      rcases List.mem_cons.mp (hown p hp) with e | e
      · left
        rw [e, eI] at hg
        exact Prod.ext e (Option.some.inj hg).symm
      · right
        have e := List.mem_singleton.mp e
        rw [e, hax] at hg
        exact Prod.ext e (Option.some.inj hg).symm
    have off1 : OwnOff [(I, oI)] (nx.map (·.1)) := by
      intro p hp b hb e
      rw [List.mem_singleton.mp hp] at e
      obtain ⟨q, hq, rfl⟩ := List.mem_map.mp hb
      exact hoff q hq (List.mem_singleton.mpr e.symm)
    have N₂ : News h₀ env.locals h1 (nx ++ [(I, oI)]) := fun p hp => N₁ p (List.mem_append.mpr ((List.mem_append.mp hp).elim .inr fun h => .inl (List.mem_singleton.mp h ▸ hI1)))
    refine wpAny_mono (turn i v m₁ nx h1 t1 _ hi hv off1 hm hJ F₁ N₂) (fun f s₂ p => ?_) fun _ _ e => e
    have fin : InvEndG h₀ env.locals (fun m' nx => (ax, oax) ∈ nx ∧ J (i + 1) m' nx) [(I, oI)] { s with heap := h1, toks := t1 } s₂ → LoopStepU h₀ env.locals [I] own (fun m nx => (ax, oax) ∈ nx ∧ J (i + 1) m nx) { s with heap := h1, toks := t1 } .next s₂ := by
      rintro ⟨h', tk, m', news', nx', e, F', N', hn, ho, ha, hj'⟩
      refine ⟨rfl, h', tk, m', nx', e, F', fun p hp => ?_, fun p hp hq => ?_, hj'⟩
      · rcases List.mem_append.mp hp with h | h
        · rcases key p h with rfl | rfl
          · exact N' _ (ho _ (.head _))
          · exact N' _ (hn _ hj'.1)
        · exact N' p (hn p h)
      · exact ha (I, oI) (.head _) p.1 (List.mem_map.mpr ⟨p, hp, rfl⟩) (List.mem_singleton.mp hq).symm
    cases f with
    | ret v => exact .ret p
    | brk => exact .brk p
    | next => exact .next (fin p)
    | cont => exact .cont (fin p)
  · rintro h' tk m' nx F' N' _ ⟨_, hJ⟩
    exact done m' nx h' tk hJ F' N'

/-- a for over a tuple of the ledger -/
theorem loopT {l : Addr} {vs : List Value} {nn : Nat} {m₀ : Str → Option Value} {news : List (Addr × Obj)} (stored : List Str) (J : Nat → List (Addr × Obj) → Prop)
    (hh : A.handled = none) (hl : (l, ({ cls := .type "tuple", data := .seq vs.toArray nn } : Obj)) ∈ news) (F : Fr h₀ env.locals s.heap m₀) (N : News h₀ env.locals s.heap news) (hj : J 0 news)
    (turn : ∀ i v (u : Str → Option Value) nx h tk own, vs[i]? = some v → OwnOff own (nx.map (·.1)) → (l, ({ cls := .type "tuple", data := .seq vs.toArray nn } : Obj)) ∈ nx → J i nx →
      Fr h₀ env.locals h (fun y => if y = x then some v else if stored.contains y then u y else m₀ y) → News h₀ env.locals h (nx ++ own) →
      wpAny (model prog w) A (execs body env) (InvPostG h₀ env.locals (fun m' nx' => (l, ({ cls := .type "tuple", data := .seq vs.toArray nn } : Obj)) ∈ nx' ∧ J (i + 1) nx' ∧ Same x stored m₀ m') own { s with heap := h, toks := tk } Q) E { s with heap := h, toks := tk })
    (done : ∀ (u : Str → Option Value) nx h tk, J vs.length nx → Fr h₀ env.locals h (fun y => if y = x then u y else if stored.contains y then u y else m₀ y) → News h₀ env.locals h nx → Q .next { s with heap := h, toks := tk }) :
    wpAny (model prog w) A (pyIter (.ref l)) (fun it s₂ => LoopAtV prog w A h₀ env x body Q E it s₂) E s := by
  have hol := (N _ hl).1
  have hls : s.heap.IsTuple l vs.toArray := ⟨_, hol, rfl, nn, rfl⟩
  have hlt := Heap.lt_size hol
  refine wpAny_pyIter_tuple hls ?_
  have W := Walks.tuple (prog := prog) (w := w) hh s.heap.objs.size l (Nat.ne_of_lt hlt) vs.toArray
  rw [show vs.toArray.size = vs.length by simp] at W
  refine loopAx (fun i m nx => J i nx ∧ Same x stored m₀ m) W (fun i h st => by obtain ⟨⟨o, e, _⟩, _⟩ := st; exact ⟨o, e⟩) ⟨⟨_, Heap.get?_push_size _ rfl, rfl, rfl⟩, hls.at fun o e => Heap.get?_push_of_some _ e⟩ (Nat.ne_of_lt F.ns.lt) (next_is_new F) (fun p hp => Nat.ne_of_lt (Heap.lt_size (N p hp).1)) hl (F.push _)
    (fun p hp => ⟨Heap.get?_push_of_some _ (N p hp).1, (N p hp).2⟩) ⟨hj, fun _ _ _ => rfl⟩ ?_ ?_
  · rintro i v m₁ nx h tk own hi hv hoff hl' ⟨hJ, hm⟩ F₁ N₁
    exact turn i v m₁ nx h tk own (by simpa using hv) hoff hl' hJ (same_fr hm F₁) N₁
  · rintro m₁ nx h tk ⟨hJ, hm⟩ F₁ N₁
    exact done m₁ nx h tk hJ (same_out hm F₁) N₁

abbrev tupObj (vs : List Value) (n : Nat) : Obj := { cls := .type "tuple", data := .seq vs.toArray n }
def SrcObj (o : Obj) (vs : List Value) : Prop := (∃ n, o = W.listOf vs.toArray n) ∨ ∃ n, o = tupObj vs n
/-- a for over a list or a tuple of the ledger -/
theorem loopQ {l : Addr} {o : Obj} {vs : List Value} {m₀ : Str → Option Value} {news : List (Addr × Obj)} (hsrc : SrcObj o vs) (stored : List Str) (J : Nat → List (Addr × Obj) → Prop)
    (hh : A.handled = none) (hl : (l, o) ∈ news) (F : Fr h₀ env.locals s.heap m₀) (N : News h₀ env.locals s.heap news) (hj : J 0 news)
    (turn : ∀ i v (u : Str → Option Value) nx h tk own, vs[i]? = some v → OwnOff own (nx.map (·.1)) → (l, o) ∈ nx → J i nx →
      Fr h₀ env.locals h (fun y => if y = x then some v else if stored.contains y then u y else m₀ y) → News h₀ env.locals h (nx ++ own) →
      wpAny (model prog w) A (execs body env) (InvPostG h₀ env.locals (fun m' nx' => (l, o) ∈ nx' ∧ J (i + 1) nx' ∧ Same x stored m₀ m') own { s with heap := h, toks := tk } Q) E { s with heap := h, toks := tk })
    (done : ∀ (u : Str → Option Value) nx h tk, J vs.length nx → Fr h₀ env.locals h (fun y => if y = x then u y else if stored.contains y then u y else m₀ y) → News h₀ env.locals h nx → Q .next { s with heap := h, toks := tk }) :
    wpAny (model prog w) A (pyIter (.ref l)) (fun it s₂ => LoopAtV prog w A h₀ env x body Q E it s₂) E s := by
  rcases hsrc with ⟨n, rfl⟩ | ⟨n, rfl⟩
  · exact loopU stored J hh hl F N hj turn done
  · exact loopT stored J hh hl F N hj turn done

/-- what is so of a place behind the heap's end, and of the heap that bears an object there -/
structure Beyond (h₀ : Heap) (L : Addr) (h : Heap) (m : Str → Option Value) (news : List (Addr × Obj)) (o : Obj) (fp : List Addr) : Prop where
  frame : L ∉ fp
  fresh : ∀ b ∈ fp, h₀.get? b = none
  ledger : ∀ p ∈ news, p.1 ∉ fp
  fr : Fr h₀ L (h.push o) m
  nw : News h₀ L (h.push o) news
theorem Beyond.one {L : Addr} {h : Heap} {m : Str → Option Value} {news : List (Addr × Obj)} (o : Obj) (F : Fr h₀ L h m) (N : News h₀ L h news) : Beyond h₀ L h m news o [h.objs.size] := by
  have e : ∀ a, a < h.objs.size → a ∉ [h.objs.size] := fun a ha hm => by simp at hm; omega
  refine ⟨e _ F.ns.lt, by simpa using next_is_new F, fun p hp => e _ (Heap.lt_size (N p hp).1), F.push o, N.grown fun b o' x => Heap.get?_push_of_some o x⟩
/-- a for over a range, the same -/
theorem loopR {r : Addr} {a₀ b₀ : Int} {t₀ u₀ v₀ : Tok} {n : Nat} {m₀ : Str → Option Value} {news : List (Addr × Obj)} (stored : List Str) (J : Nat → List (Addr × Obj) → Prop)
    (hh : A.handled = none) (hr : IsRange s.heap r a₀ b₀ 1 t₀ u₀ v₀) (hsmall : Builtin.Range.small a₀ b₀ 1 = true) (hsz : Builtin.Range.rangeSize a₀ b₀ 1 = (n : Int)) (F : Fr h₀ env.locals s.heap m₀) (N : News h₀ env.locals s.heap news) (hj : J 0 news)
    (turn : ∀ (i : Nat) t (u : Str → Option Value) nx h tk own, i < n → OwnOff own (nx.map (·.1)) → J i nx →
      Fr h₀ env.locals h (fun y => if y = x then some (.int (a₀ + (i : Int)) t) else if stored.contains y then u y else m₀ y) → News h₀ env.locals h (nx ++ own) →
      wpAny (model prog w) A (execs body env) (InvPostG h₀ env.locals (fun m' nx' => J (i + 1) nx' ∧ Same x stored m₀ m') own { s with heap := h, toks := tk } Q) E { s with heap := h, toks := tk })
    (done : ∀ (u : Str → Option Value) nx h tk, J n nx → Fr h₀ env.locals h (fun y => if y = x then u y else if stored.contains y then u y else m₀ y) → News h₀ env.locals h nx → Q .next { s with heap := h, toks := tk }) :
    wpAny (model prog w) A (pyIter (.ref r)) (fun it s₂ => LoopAtV prog w A h₀ env x body Q E it s₂) E s :=
  wpAny_pyIter_range hr hsmall <| by
    have Y := Beyond.one { cls := .type "range_iterator", data := .fields #[rawInt a₀, rawInt (Builtin.Range.rangeSize a₀ b₀ 1), rawInt 1] } F N
    refine kdr_loop (fun i m nx => J i nx ∧ Same x stored m₀ m) (Walks.range hh s.heap.objs.size a₀ 1 n).bound (fun _ => id) (fun _ => id) ?here Y.frame Y.fresh Y.ledger ?start Y.fr Y.nw ⟨hj, fun _ _ _ => rfl⟩ ?step fun m₁ nx h tk J₁ F₁ => done m₁ nx h tk J₁.1 (same_out J₁.2 F₁)
    case here => simpa using fun i h (st : IsRangeIter h _ _ _ _) => ⟨_, st⟩
    case start =>
      rw [← hsz]
      simpa [IsRangeIter] using Heap.get?_push_size s.heap rfl
    case step =>
      rintro i _ m₁ nx h tk own hi ⟨_, t, rfl⟩ hoff J₁ F₁
      rw [Int.mul_one] at F₁
      exact turn i t m₁ nx h tk own hi hoff J₁.1 (same_fr J₁.2 F₁)

/-- a goal that the walk lets lie -/
def Hold (P : Prop) : Prop := P
theorem Hold.mk {P : Prop} (h : P) : Hold P := h
theorem Hold.out {P : Prop} (h : Hold P) : P := h
theorem hold_tree {P : Prop} (h : Hold P) : P := h

theorem loopS {xt : Str} {tx : Tok} {m₀ : Str → Option Value} {news : List (Addr × Obj)} (stored : List Str)
    (hh : A.handled = none) (F : Fr h₀ env.locals s.heap m₀) (N : News h₀ env.locals s.heap news)
    (turn : Hold (∀ (i : Nat) c t (u : Str → Option Value) h tk own, xt.cps[i]? = some c → OwnOff own (news.map (·.1)) →
      Fr h₀ env.locals h (fun y => if y = x then some (.str ⟨#[c]⟩ t) else if stored.contains y then u y else m₀ y) → News h₀ env.locals h (news ++ own) →
      wpAny (model prog w) A (execs body env) (InvPostN h₀ env.locals (fun m' nx' => nx' = news ∧ Same x stored m₀ m') own (news.map (·.1)) { s with heap := h, toks := tk } Q) E { s with heap := h, toks := tk }))
    (done : ∀ (u : Str → Option Value) h tk, Fr h₀ env.locals h (fun y => if y = x then u y else if stored.contains y then u y else m₀ y) → News h₀ env.locals h news → Q .next { s with heap := h, toks := tk }) :
    wpAny (model prog w) A (pyIter (.str xt tx)) (fun it s₂ => LoopAtV prog w A h₀ env x body Q E it s₂) E s :=
  wpAny_pyIter_str fun o St hW hst => by
    have Y := Beyond.one o F N
    refine loop_invN (fun i m nx => nx = news ∧ Same x stored m₀ m) (hW A hh) Y.frame Y.fresh Y.ledger Y.ledger hst Y.fr Y.nw ⟨rfl, fun _ _ _ => rfl⟩ ?step ?last
    case step =>
      rintro i _ m₁ _ h tk own _ ⟨c, t, hc, rfl⟩ _ hoff ⟨rfl, hm⟩ F₁
      exact turn i c t m₁ h tk own hc hoff (same_fr hm F₁)
    case last =>
      rintro m₁ _ h tk ⟨rfl, hm⟩ F₁
      exact done m₁ h tk (same_out hm F₁)
theorem turn_stillN {L : Addr} {stored : List Str} {m₀ m' : Str → Option Value} {nx own news' : List (Addr × Obj)} {s₁ : Shared} {h' : Heap} {tk : Nat} (F : Fr h₀ L h' m') (N : News h₀ L h' news') (hs : ∀ p ∈ nx ++ own, p ∈ news')
    (hm : Same x stored m₀ m') : InvEndN h₀ L (fun m' nx' => nx' = nx ∧ Same x stored m₀ m') own (nx.map (·.1)) s₁ { s₁ with heap := h', toks := tk } :=
  ⟨h', tk, m', news', nx, rfl, F, N, fun p hp => hs p (List.mem_append.mpr (.inl hp)), fun p hp => hs p (List.mem_append.mpr (.inr hp)), rfl, rfl, hm⟩
end

/-! flags -/
def Known : List Str := [Str.ofString "\\Answered", Str.ofString "\\Deleted", Str.ofString "\\Seen", Str.ofString "new"]
structure FlagsOk (fl : List Str) : Prop where
  known : ∀ x ∈ fl, x ∈ Known
  nodup : fl.Nodup
  sorted : sortedS fl = true
  short : fl.length ≤ 4
def leS (a b : Str) : Bool := !ltCps b.cps.toList a.cps.toList
theorem leS_trans : ∀ a ∈ Known, ∀ b ∈ Known, ∀ c ∈ Known, leS a b = true → leS b c = true → leS a c = true := by decide +kernel
theorem leS_anti : ∀ a ∈ Known, ∀ b ∈ Known, leS a b = true → leS b a = true → a = b := by decide +kernel
theorem rising_pw : ∀ (l : List Str) (p : Str), p ∈ Known → (∀ x ∈ l, x ∈ Known) → risingS p l = true → (p :: l).Pairwise (fun a b => leS a b = true)
  | [], p, _, _, _ => List.pairwise_singleton _ _
  | x :: r, p, hp, hk, h => by
    obtain ⟨h1, h2⟩ := Bool.and_eq_true_iff.mp h
    have ih := rising_pw r x (hk _ (.head _)) (fun y hy => hk y (.tail _ hy)) h2
    refine List.pairwise_cons.mpr ⟨fun y hy => ?_, ih⟩
    rcases List.mem_cons.mp hy with rfl | hy
    · exact h1
    · exact leS_trans p hp x (hk _ (.head _)) y (hk y (.tail _ hy)) h1 ((List.pairwise_cons.mp ih).1 y hy)
theorem sorted_pw {l : List Str} (hk : ∀ x ∈ l, x ∈ Known) (h : sortedS l = true) : l.Pairwise (fun a b => leS a b = true) := by
  cases l with
  | nil => exact .nil
  | cons x r => exact rising_pw r x (hk _ (.head _)) (fun y hy => hk y (.tail _ hy)) h
theorem flags_sorted {a b : List Str} (hb : FlagsOk b) (hp : a.Perm b) (hs : sortedS a = true) : a = b := by
  have hk : ∀ x ∈ a, x ∈ Known := fun x hx => hb.known x (hp.mem_iff.mp hx)
  exact List.Perm.eq_of_pairwise (fun x y hx hy h1 h2 => leS_anti x (hk x hx) y (hb.known y hy) h1 h2) (sorted_pw hk hs) (sorted_pw hb.known hb.sorted) hp

/-! letters -/
structure LT where
  uid : Int
  oct : Array UInt8
  fl : List Str
  inst : Int
  mod : Int
abbrev letterD (P : Params) (s1 s2 s3 s4 s5 : Tok) (u o f i m : Value) : Obj :=
  dictOf [⟨PyData.keyHash P (Str.ofString "uid"), .str (Str.ofString "uid") s1, u⟩, ⟨PyData.keyHash P (Str.ofString "octets"), .str (Str.ofString "octets") s2, o⟩,
    ⟨PyData.keyHash P (Str.ofString "flags"), .str (Str.ofString "flags") s3, f⟩, ⟨PyData.keyHash P (Str.ofString "instant"), .str (Str.ofString "instant") s4, i⟩,
    ⟨PyData.keyHash P (Str.ofString "modseq"), .str (Str.ofString "modseq") s5, m⟩] 5
inductive LetterIn (P : Params) (news : List (Addr × Obj)) : Value → LT → Prop
  | mk {a dx ft : Addr} {s1 s2 s3 s4 s5 k1 k2 k3 k4 : Tok} {fv : List Value} {n : Nat} {uid inst mod : Int} {oct : Array UInt8} {fl : List Str} :
      (a, instObj 120 dx) ∈ news → (dx, letterD P s1 s2 s3 s4 s5 (.int uid k1) (.bytes oct k2) (.ref ft) (.int inst k3) (.int mod k4)) ∈ news → (ft, tupObj fv n) ∈ news → StrsAre fv fl → FlagsOk fl →
      LetterIn P news (.ref a) ⟨uid, oct, fl, inst, mod⟩
theorem LetterIn.mono {P : Params} {news news' : List (Addr × Obj)} {v : Value} {l : LT} (h : LetterIn P news v l) (hs : ∀ p ∈ news, p ∈ news') : LetterIn P news' v l := by
  cases h with
  | mk h1 h2 h3 h4 h5 => exact .mk (hs _ h1) (hs _ h2) (hs _ h3) h4 h5
inductive LettersIn (P : Params) (news : List (Addr × Obj)) : List Value → List LT → Prop
  | nil : LettersIn P news [] []
  | cons {v : Value} {vs : List Value} {l : LT} {ls : List LT} : LetterIn P news v l → LettersIn P news vs ls → LettersIn P news (v :: vs) (l :: ls)
theorem LettersIn.mono {P : Params} {news news' : List (Addr × Obj)} (hs : ∀ p ∈ news, p ∈ news') : ∀ {vs : List Value} {ls : List LT}, LettersIn P news vs ls → LettersIn P news' vs ls
  | _, _, .nil => .nil
  | _, _, .cons h r => .cons (h.mono hs) (r.mono hs)
theorem LettersIn.length {P : Params} {news : List (Addr × Obj)} : ∀ {vs : List Value} {ls : List LT}, LettersIn P news vs ls → vs.length = ls.length
  | _, _, .nil => rfl
  | _, _, .cons _ r => by rw [List.length_cons, List.length_cons, r.length]
theorem LettersIn.at {P : Params} {news : List (Addr × Obj)} : ∀ {vs : List Value} {ls : List LT} {i : Nat} {v : Value}, LettersIn P news vs ls → vs[i]? = some v → ∃ l, ls[i]? = some l ∧ LetterIn P news v l
  | _, _, _, _, .nil, h => by simp at h
  | _, _, 0, _, .cons h _, e => ⟨_, rfl, Option.some.inj e ▸ h⟩
  | _, _, i + 1, _, .cons _ r, e => by
    obtain ⟨l, h1, h2⟩ := LettersIn.at (i := i) r (by simpa using e)
    exact ⟨l, by simpa using h1, h2⟩
theorem LettersIn.get {P : Params} {news : List (Addr × Obj)} : ∀ {vs : List Value} {ls : List LT} {i : Nat} {l : LT}, LettersIn P news vs ls → ls[i]? = some l → ∃ v, vs[i]? = some v ∧ LetterIn P news v l
  | _, _, _, _, .nil, h => by simp at h
  | _, _, 0, _, .cons h _, e => ⟨_, rfl, Option.some.inj e ▸ h⟩
  | _, _, i + 1, _, .cons _ r, e => by
    obtain ⟨v, h1, h2⟩ := LettersIn.get (i := i) r (by simpa using e)
    exact ⟨v, by simpa using h1, h2⟩
theorem LettersIn.append {P : Params} {news : List (Addr × Obj)} {vs us : List Value} {ls ks : List LT} (h : LettersIn P news vs ls) (k : LettersIn P news us ks) : LettersIn P news (vs ++ us) (ls ++ ks) := by
  induction h with
  | nil => exact k
  | cons h _ ih => exact .cons h ih
theorem offApp {d : Addr} {a b : List (Addr × Obj)} (ha : Off d a) (hb : Off d b) : Off d (a ++ b) := fun p hp => (List.mem_append.mp hp).elim (ha p) (hb p)
theorem perm5 {q1 q2 q3 q4 q5 : Addr × Obj} {r : List (Addr × Obj)} : ∀ p ∈ q4 :: q5 :: ([q1, q2, q3] ++ r), p ∈ q1 :: q2 :: q3 :: q4 :: q5 :: r := by
  intro p hp
  simp only [List.cons_append, List.nil_append, List.mem_cons] at hp ⊢
  rcases hp with h | h | h | h | h | h <;> simp [h]
theorem above3 {q1 q2 q3 : Addr × Obj} {news : List (Addr × Obj)} (h1 : ∀ q ∈ news, @LT.lt Nat _ q.1 q1.1) (h2 : ∀ q ∈ news, @LT.lt Nat _ q.1 q2.1) (h3 : ∀ q ∈ news, @LT.lt Nat _ q.1 q3.1) : Above news [q1, q2, q3] := by
  intro q hq p hp
  simp only [List.mem_cons, List.not_mem_nil, or_false] at hp
  rcases hp with rfl | rfl | rfl
  · exact h1 q hq
  · exact h2 q hq
  · exact h3 q hq
theorem lt2 {q1 q2 : Addr × Obj} {r : List (Addr × Obj)} {x : Addr} (h1 : @LT.lt Nat _ q1.1 x) (h2 : @LT.lt Nat _ q2.1 x) (h3 : AllLt x r) : ∀ q ∈ q1 :: q2 :: r, @LT.lt Nat _ q.1 x := by
  intro q hq
  rcases List.mem_cons.mp hq with rfl | hq
  · exact h1
  · rcases List.mem_cons.mp hq with rfl | hq
    · exact h2
    · exact ktn_ltOf h3 q hq
section
variable {prog : Program} {w : World} {A : Around} {E : Value → Shared → Prop} {s : Shared} {h₀ : Heap} {L : Addr} {news : List (Addr × Obj)}
theorem lenL {l : Addr} {vs : List Value} {n : Nat} {Q : Value → Shared → Prop} (N : News h₀ L s.heap news) (hm : (l, W.listOf vs.toArray n) ∈ news) (hz : vs.length ≤ 1000) (h : Q (.int vs.length (s.toks + 1)) { s with toks := s.toks + 1 + 1 }) :
    wpAny (model prog w) A (call (.builtin "len") [.ref l]) Q E s :=
  call_len_list (News.isList N hm) (by rw [List.size_toArray]; omega) (by rw [List.size_toArray]; exact h)
end
theorem asc {ls : List LT} (hs : ls.Pairwise (fun a b => a.uid < b.uid)) {i j : Nat} {a b : LT} (h1 : ls[i]? = some a) (h2 : ls[j]? = some b) (h : i < j) : a.uid < b.uid := by
  obtain ⟨hi, rfl⟩ := List.getElem?_eq_some_iff.mp h1
  obtain ⟨hj, rfl⟩ := List.getElem?_eq_some_iff.mp h2
  exact List.pairwise_iff_getElem.mp hs i j hi hj h
/-! comprehensions over a list of the ledger, by what holds behind i turns -/
section
open PyProof.Rows.LCg PyProof.Rows.LCt
variable {prog : Program} {w : World} {A : Around} {E : Value → Shared → Prop} {s : Shared} {h₀ : Heap} {L : Addr} {m : Str → Option Value} {env : Env}
theorem CompEnd.imp {s₁ s₂ : Shared} {I C D : Addr} {oI oC oD : Obj} {S : List (Addr × Obj) → Prop} {rest rest' : Value → List (Addr × Obj) → Prop} {y : Value} (h : CompEnd h₀ L m s₁ I oI C oC D oD S rest y s₂) (hr : ∀ y nx, rest y nx → rest' y nx) :
    CompEnd h₀ L m s₁ I oI C oC D oD S rest' y s₂ := by
  obtain ⟨h', tk, nx, e, F, N, off, hS, r⟩ := h
  exact ⟨h', tk, nx, e, F, N, off, hS, hr _ _ r⟩
theorem srcAt_of {ax : Addr} {vs : List Value} {k : Nat} {nx : List (Addr × Obj)} (hm : (ax, W.listOf vs.toArray k) ∈ nx) : SrcAt h₀ ax vs.toArray nx := .inr ⟨_, hm, rfl, _, rfl⟩

theorem compRest {elt : PySem.Expr} {x : Str} {scope : Scope} {cl : List (Str × Addr)} {s : Shared} {S : List (Addr × Obj) → Prop} {P : Nat → Value → Prop} {Fin : List Value → List (Addr × Obj) → Prop} {n : Nat} (J : Nat → List Value → List (Addr × Obj) → Prop)
    (turn : ∀ i v ys nx I oI C oC D m₂ h tk (E' : Value → Shared → Prop), i < n → P i v → J i ys nx → NsObj oC m₂ → m₂ x = some v → Fr h₀ L h m → News h₀ L h ((I, oI) :: (C, oC) :: (D, lst ys) :: nx) → Off3 I C D nx → ((@Ne Nat I C) ∧ (@Ne Nat I D) ∧ (@Ne Nat C D)) →
      wpAny (model prog w) A (eval elt (compEnvC scope cl C env)) (CompEnd h₀ L m { s with heap := h, toks := tk } I oI C oC D (lst ys) S (fun y nx' => J (i + 1) (ys ++ [y]) nx')) E' { s with heap := h, toks := tk })
    (done : ∀ ys nx, J n ys nx → Fin ys nx) : ∀ k i ys nx, i + k = n → J i ys nx → CompRest prog w A h₀ L m env elt x scope cl s S P Fin k i ys nx := by
  intro k
  induction k with
  | zero => intro i ys nx hi hJ; exact .zero (done ys nx (by rw [← hi]; exact hJ))
  | succ k ih =>
    intro i ys nx hi hJ
    refine .succ fun v I oI C oC D m₂ h tk E' hP hC hx F N off ne => ?_
    exact wpAny_mono (turn i v ys nx I oI C oC D m₂ h tk E' (by omega) hP hJ hC hx F N off ne) (fun y s₂ h₂ => CompEnd.imp h₂ fun y' nx' hj => ih (i + 1) _ _ (by omega) hj) fun _ _ e => e

theorem compRestT {ct elt : PySem.Expr} {x : Str} {scope : Scope} {cl : List (Str × Addr)} {s : Shared} {S : List (Addr × Obj) → Prop} {P : Nat → Value → Prop} {Fin : List Value → List (Addr × Obj) → Prop} {n : Nat} (J : Nat → List Value → List (Addr × Obj) → Prop)
    (turn : ∀ i v ys nx I oI C oC D m₂ h tk (E' : Value → Shared → Prop), i < n → P i v → J i ys nx → NsObj oC m₂ → m₂ x = some v → Fr h₀ L h m → News h₀ L h ((I, oI) :: (C, oC) :: (D, lst ys) :: nx) → Off3 I C D nx → ((@Ne Nat I C) ∧ (@Ne Nat I D) ∧ (@Ne Nat C D)) →
      wpAny (model prog w) A (isTrue ct (compEnvC scope cl C env) (eval ct (compEnvC scope cl C env))) (fun ok s' => if ok = true then
        wpAny (model prog w) A (eval elt (compEnvC scope cl C env)) (CompEnd h₀ L m { s with heap := h, toks := tk } I oI C oC D (lst ys) S (fun y nx' => J (i + 1) (ys ++ [y]) nx')) E' s'
        else CompEnd h₀ L m { s with heap := h, toks := tk } I oI C oC D (lst ys) S (fun _ nx' => J (i + 1) ys nx') Value.none s') E' { s with heap := h, toks := tk })
    (done : ∀ ys nx, J n ys nx → Fin ys nx) : ∀ k i ys nx, i + k = n → J i ys nx → CompRestT prog w A h₀ L m env ct elt x scope cl s S P Fin k i ys nx := by
  intro k
  induction k with
  | zero => intro i ys nx hi hJ; exact .zero (done ys nx (by rw [← hi]; exact hJ))
  | succ k ih =>
    intro i ys nx hi hJ
    refine .succ fun v I oI C oC D m₂ h tk E' hP hC hx F N off ne => ?_
    refine wpAny_mono (turn i v ys nx I oI C oC D m₂ h tk E' (by omega) hP hJ hC hx F N off ne) (fun ok s₂ h₂ => ?_) fun _ _ e => e
    cases ok with
    | true =>
      simp only [if_true] at h₂ ⊢
      exact wpAny_mono h₂ (fun y s₃ h₃ => CompEnd.imp h₃ fun y' nx' hj => ih (i + 1) _ _ (by omega) hj) fun _ _ e => e
    | false =>
      simp only [Bool.false_eq_true, if_false] at h₂ ⊢
      exact CompEnd.imp h₂ fun y' nx' hj => ih (i + 1) _ _ (by omega) hj

/-- [elt for x in list] -/
theorem compL {elt : PySem.Expr} {x : Str} {scope : Scope} {cl : List (Str × Addr)} {Fin : Shared → List Value → List (Addr × Obj) → Prop} {ax : Addr} {vs : List Value} {k : Nat} {news : List (Addr × Obj)} {s₁ : Shared} (J : Nat → List Value → List (Addr × Obj) → Prop)
    (hh : A.handled = none) (F : Fr h₀ L s₁.heap m) (N : News h₀ L s₁.heap news) (hm : (ax, W.listOf vs.toArray k) ∈ news) (hsz : vs.length ≤ 1000) (hj : J 0 [] news)
    (turn : ∀ i v ys nx I oI C oC D m₂ g h tk (E' : Value → Shared → Prop), i < vs.length → vs[i]? = some v → J i ys nx → NsObj oC m₂ → m₂ x = some v → Fr h₀ L h m → News h₀ L h ((I, oI) :: (C, oC) :: (D, lst ys) :: nx) → Off3 I C D nx → ((@Ne Nat I C) ∧ (@Ne Nat I D) ∧ (@Ne Nat C D)) →
      wpAny (model prog w) A (eval elt (compEnvC scope cl C env)) (CompEnd h₀ L m { ({ s₁ with heap := g } : Shared) with heap := h, toks := tk } I oI C oC D (lst ys) (SrcAt h₀ ax vs.toArray) (fun y nx' => J (i + 1) (ys ++ [y]) nx')) E' { ({ s₁ with heap := g } : Shared) with heap := h, toks := tk })
    (done : ∀ g ys nx, J vs.length ys nx → Fin { s₁ with heap := g } ys nx) : CompSrc prog w A h₀ L m env elt x scope cl Fin (.ref ax) s₁ := by
  refine CompSrc.ledger hh F N hm (by rw [List.size_toArray, sizeLine_eq]; omega) fun g => ?_
  rw [List.size_toArray]
  exact compRest J (fun i v ys nx I oI C oC D m₂ h tk E' hi hP => turn i v ys nx I oI C oC D m₂ g h tk E' hi (by simpa using hP)) (done g) _ 0 [] news (by omega) hj

/-- [elt for x in list if ct] -/
theorem compLT {ct elt : PySem.Expr} {x : Str} {scope : Scope} {cl : List (Str × Addr)} {Fin : Shared → List Value → List (Addr × Obj) → Prop} {ax : Addr} {vs : List Value} {k : Nat} {news : List (Addr × Obj)} {s₁ : Shared} (J : Nat → List Value → List (Addr × Obj) → Prop)
    (hh : A.handled = none) (F : Fr h₀ L s₁.heap m) (N : News h₀ L s₁.heap news) (hm : (ax, W.listOf vs.toArray k) ∈ news) (hsz : vs.length ≤ 1000) (hj : J 0 [] news)
    (turn : ∀ i v ys nx I oI C oC D m₂ g h tk (E' : Value → Shared → Prop), i < vs.length → vs[i]? = some v → J i ys nx → NsObj oC m₂ → m₂ x = some v → Fr h₀ L h m → News h₀ L h ((I, oI) :: (C, oC) :: (D, lst ys) :: nx) → Off3 I C D nx → ((@Ne Nat I C) ∧ (@Ne Nat I D) ∧ (@Ne Nat C D)) →
      wpAny (model prog w) A (isTrue ct (compEnvC scope cl C env) (eval ct (compEnvC scope cl C env))) (fun ok s' => if ok = true then
        wpAny (model prog w) A (eval elt (compEnvC scope cl C env)) (CompEnd h₀ L m { ({ s₁ with heap := g } : Shared) with heap := h, toks := tk } I oI C oC D (lst ys) (SrcAt h₀ ax vs.toArray) (fun y nx' => J (i + 1) (ys ++ [y]) nx')) E' s'
        else CompEnd h₀ L m { ({ s₁ with heap := g } : Shared) with heap := h, toks := tk } I oI C oC D (lst ys) (SrcAt h₀ ax vs.toArray) (fun _ nx' => J (i + 1) ys nx') Value.none s') E' { ({ s₁ with heap := g } : Shared) with heap := h, toks := tk })
    (done : ∀ g ys nx, J vs.length ys nx → Fin { s₁ with heap := g } ys nx) : CompSrcT prog w A h₀ L m env ct elt x scope cl Fin (.ref ax) s₁ := by
  refine CompSrcT.ledger hh F N hm (by rw [List.size_toArray, sizeLine_eq]; omega) fun g => ?_
  rw [List.size_toArray]
  exact compRestT J (fun i v ys nx I oI C oC D m₂ h tk E' hi hP => turn i v ys nx I oI C oC D m₂ g h tk E' hi (by simpa using hP)) (done g) _ 0 [] news (by omega) hj
/-- a turn's end that keeps the ledger -/
theorem compEnd {s₁ : Shared} {I C D : Addr} {oI oC oD : Obj} {S : List (Addr × Obj) → Prop} {rest : Value → List (Addr × Obj) → Prop} {y : Value} {h' : Heap} {tk : Nat} {all nx : List (Addr × Obj)} (F : Fr h₀ L h' m) (N : News h₀ L h' all)
    (sub : ∀ p ∈ (I, oI) :: (C, oC) :: (D, oD) :: nx, p ∈ all) (off : Off3 I C D nx) (hS : S nx) (r : rest y nx) : CompEnd h₀ L m s₁ I oI C oC D oD S rest y { s₁ with heap := h', toks := tk } := CompEnd.intro F N nx sub off hS r
end
/-! what copying makes, on plain lists -/
def pick (ls : List LT) (u : Int) : Option LT := ls.find? (fun x => x.uid == u)
def made : Int → Int → List LT → List LT
  | _, _, [] => []
  | nu, top, x :: r => ⟨nu, x.oct, x.fl, x.inst, top + 1⟩ :: made (nu + 1) (top + 1) r
def pairsD : Int → List LT → List Dat
  | _, [] => []
  | nu, x :: r => .tuple [.int x.uid, .int nu] :: pairsD (nu + 1) r
theorem made_snoc (x : LT) : ∀ (r : List LT) (nu top : Int), made nu top (r ++ [x]) = made nu top r ++ [⟨nu + r.length, x.oct, x.fl, x.inst, top + r.length + 1⟩]
  | [], nu, top => by simp [made]
  | y :: r, nu, top => by
    rw [List.cons_append, made, made_snoc x r, made, List.cons_append, List.length_cons]
    simp only [List.cons.injEq, List.append_cancel_left_eq, LT.mk.injEq, true_and, and_true]
    omega
theorem pairsD_snoc (x : LT) : ∀ (r : List LT) (nu : Int), pairsD nu (r ++ [x]) = pairsD nu r ++ [.tuple [.int x.uid, .int (nu + r.length)]]
  | [], nu => by simp [pairsD]
  | y :: r, nu => by
    rw [List.cons_append, pairsD, pairsD_snoc x r, pairsD, List.cons_append, List.length_cons]
    simp only [List.cons.injEq, List.append_cancel_left_eq, Dat.tuple.injEq, Dat.int.injEq, true_and, and_true]
    omega
theorem pick_none {ls : List LT} {u : Int} (h : ∀ x ∈ ls, x.uid ≠ u) : pick ls u = none := by
  unfold pick
  rw [List.find?_eq_none]
  intro x hx
  simpa using h x hx
theorem pick_some {ls : List LT} {u : Int} {j : Nat} {x : LT} (hs : ls.Pairwise (fun a b => a.uid < b.uid)) (hj : ls[j]? = some x) (hu : x.uid = u) : pick ls u = some x := by
  unfold pick
  obtain ⟨hj', e⟩ := List.getElem?_eq_some_iff.mp hj
  rw [List.find?_eq_some_iff_getElem]
  refine ⟨by simpa using hu, j, hj', e, fun i hi => ?_⟩
  have := asc hs (List.getElem?_eq_getElem (Nat.lt_trans hi hj')) hj hi
  simp only [Bool.not_eq_true', beq_eq_false_iff_ne]
  omega
inductive OptIn (P : Params) (news : List (Addr × Obj)) : Value → Option LT → Prop
  | none : OptIn P news .none none
  | some {v : Value} {x : LT} : LetterIn P news v x → OptIn P news v (some x)
theorem offAbove {d : Addr} {q : Addr × Obj} {news tl : List (Addr × Obj)} (h : Above news tl) (hq : q ∈ news) (hd : q.1 = d) : Off d tl := fun p hp => hd ▸ Nat.ne_of_gt (h q hq p hp)
theorem intAt : ∀ {vs : List Value} {ns : List Int} {i : Nat} {v : Value}, IntsAre vs ns → vs[i]? = some v → ∃ n t, v = .int n t ∧ ns[i]? = some n := by
  intro vs ns i v h hv
  have hi : i < ns.length := by rw [← h.length]; exact (List.getElem?_eq_some_iff.mp hv).1
  obtain ⟨t, hx⟩ := h.get i ns[i] (List.getElem?_eq_getElem hi)
  rw [hv] at hx
  exact ⟨_, t, Option.some.inj hx, List.getElem?_eq_getElem hi⟩
/-! the same where a turn makes nothing that lasts -/
section
open PyProof.Rows.LCg PyProof.Rows.LCt
variable {prog : Program} {w : World} {A : Around} {E : Value → Shared → Prop} {s : Shared} {h₀ : Heap} {L : Addr} {m : Str → Option Value} {env : Env}
theorem compEnd0 {s₁ : Shared} {I C D ax : Addr} {oI oC oD : Obj} {vs : List Value} {k : Nat} {J' : Value → Prop} {y : Value} {h' : Heap} {tk : Nat} {all news : List (Addr × Obj)} (F : Fr h₀ L h' m) (N : News h₀ L h' all)
    (sub : ∀ p ∈ (I, oI) :: (C, oC) :: (D, oD) :: news, p ∈ all) (off : Off3 I C D news) (hm : (ax, W.listOf vs.toArray k) ∈ news) (r : J' y) :
    CompEnd h₀ L m s₁ I oI C oC D oD (SrcAt h₀ ax vs.toArray) (fun y nx' => nx' = news ∧ J' y) y { s₁ with heap := h', toks := tk } := CompEnd.intro F N news sub off (srcAt_of hm) ⟨rfl, r⟩
theorem compL0 {elt : PySem.Expr} {x : Str} {scope : Scope} {cl : List (Str × Addr)} {Fin : Shared → List Value → List (Addr × Obj) → Prop} {ax : Addr} {vs : List Value} {k : Nat} {news : List (Addr × Obj)} {s₁ : Shared} (J : Nat → List Value → Prop)
    (hh : A.handled = none) (F : Fr h₀ L s₁.heap m) (N : News h₀ L s₁.heap news) (hm : (ax, W.listOf vs.toArray k) ∈ news) (hsz : vs.length ≤ 1000) (hj : J 0 [])
    (turn : ∀ i v ys I oI C oC D m₂ g h tk (E' : Value → Shared → Prop), i < vs.length → vs[i]? = some v → J i ys → NsObj oC m₂ → m₂ x = some v → Fr h₀ L h m → News h₀ L h ((I, oI) :: (C, oC) :: (D, lst ys) :: news) → Off3 I C D news → ((@Ne Nat I C) ∧ (@Ne Nat I D) ∧ (@Ne Nat C D)) →
      wpAny (model prog w) A (eval elt (compEnvC scope cl C env)) (CompEnd h₀ L m { ({ s₁ with heap := g } : Shared) with heap := h, toks := tk } I oI C oC D (lst ys) (SrcAt h₀ ax vs.toArray) (fun y nx' => nx' = news ∧ J (i + 1) (ys ++ [y]))) E' { ({ s₁ with heap := g } : Shared) with heap := h, toks := tk })
    (done : ∀ g ys, J vs.length ys → Fin { s₁ with heap := g } ys news) : CompSrc prog w A h₀ L m env elt x scope cl Fin (.ref ax) s₁ := by
  refine compL (fun i ys nx => nx = news ∧ J i ys) hh F N hm hsz ⟨rfl, hj⟩ ?_ ?_
  · rintro i v ys nx I oI C oC D m₂ g h tk E' hi hv ⟨rfl, hJ⟩ hC hx F N off ne
    exact turn i v ys I oI C oC D m₂ g h tk E' hi hv hJ hC hx F N off ne
  · rintro g ys nx ⟨rfl, hJ⟩
    exact done g ys hJ
theorem compLT0 {ct elt : PySem.Expr} {x : Str} {scope : Scope} {cl : List (Str × Addr)} {Fin : Shared → List Value → List (Addr × Obj) → Prop} {ax : Addr} {vs : List Value} {k : Nat} {news : List (Addr × Obj)} {s₁ : Shared} (J : Nat → List Value → Prop)
    (hh : A.handled = none) (F : Fr h₀ L s₁.heap m) (N : News h₀ L s₁.heap news) (hm : (ax, W.listOf vs.toArray k) ∈ news) (hsz : vs.length ≤ 1000) (hj : J 0 [])
    (turn : ∀ i v ys I oI C oC D m₂ g h tk (E' : Value → Shared → Prop), i < vs.length → vs[i]? = some v → J i ys → NsObj oC m₂ → m₂ x = some v → Fr h₀ L h m → News h₀ L h ((I, oI) :: (C, oC) :: (D, lst ys) :: news) → Off3 I C D news → ((@Ne Nat I C) ∧ (@Ne Nat I D) ∧ (@Ne Nat C D)) →
      wpAny (model prog w) A (isTrue ct (compEnvC scope cl C env) (eval ct (compEnvC scope cl C env))) (fun ok s' => if ok = true then
        wpAny (model prog w) A (eval elt (compEnvC scope cl C env)) (CompEnd h₀ L m { ({ s₁ with heap := g } : Shared) with heap := h, toks := tk } I oI C oC D (lst ys) (SrcAt h₀ ax vs.toArray) (fun y nx' => nx' = news ∧ J (i + 1) (ys ++ [y]))) E' s'
        else CompEnd h₀ L m { ({ s₁ with heap := g } : Shared) with heap := h, toks := tk } I oI C oC D (lst ys) (SrcAt h₀ ax vs.toArray) (fun _ nx' => nx' = news ∧ J (i + 1) ys) Value.none s') E' { ({ s₁ with heap := g } : Shared) with heap := h, toks := tk })
    (done : ∀ g ys, J vs.length ys → Fin { s₁ with heap := g } ys news) : CompSrcT prog w A h₀ L m env ct elt x scope cl Fin (.ref ax) s₁ := by
  refine compLT (fun i ys nx => nx = news ∧ J i ys) hh F N hm hsz ⟨rfl, hj⟩ ?_ ?_
  · rintro i v ys nx I oI C oC D m₂ g h tk E' hi hv ⟨rfl, hJ⟩ hC hx F N off ne
    exact turn i v ys I oI C oC D m₂ g h tk E' hi hv hJ hC hx F N off ne
  · rintro g ys nx ⟨rfl, hJ⟩
    exact done g ys hJ
/-- what a turn makes stands behind the ledger -/
theorem compL1 {elt : PySem.Expr} {x : Str} {scope : Scope} {cl : List (Str × Addr)} {Fin : Shared → List Value → List (Addr × Obj) → Prop} {ax : Addr} {vs : List Value} {k : Nat} {news : List (Addr × Obj)} {s₁ : Shared} (J : Nat → List Value → List (Addr × Obj) → Prop)
    (hh : A.handled = none) (F : Fr h₀ L s₁.heap m) (N : News h₀ L s₁.heap news) (hm : (ax, W.listOf vs.toArray k) ∈ news) (hsz : vs.length ≤ 1000) (hj : J 0 [] [])
    (turn : ∀ i v ys tl I oI C oC D m₂ g h tk (E' : Value → Shared → Prop), i < vs.length → vs[i]? = some v → J i ys tl → Above news tl → NsObj oC m₂ → m₂ x = some v → Fr h₀ L h m → News h₀ L h ((I, oI) :: (C, oC) :: (D, lst ys) :: (news ++ tl)) → Off3 I C D (news ++ tl) → ((@Ne Nat I C) ∧ (@Ne Nat I D) ∧ (@Ne Nat C D)) →
      wpAny (model prog w) A (eval elt (compEnvC scope cl C env)) (CompEnd h₀ L m { ({ s₁ with heap := g } : Shared) with heap := h, toks := tk } I oI C oC D (lst ys) (SrcAt h₀ ax vs.toArray) (fun y nx' => ∃ tl', nx' = news ++ tl' ∧ Above news tl' ∧ J (i + 1) (ys ++ [y]) tl')) E' { ({ s₁ with heap := g } : Shared) with heap := h, toks := tk })
    (done : ∀ g ys tl, Above news tl → J vs.length ys tl → Fin { s₁ with heap := g } ys (news ++ tl)) : CompSrc prog w A h₀ L m env elt x scope cl Fin (.ref ax) s₁ := by
  refine compL (fun i ys nx => ∃ tl, nx = news ++ tl ∧ Above news tl ∧ J i ys tl) hh F N hm hsz ⟨[], by simp, (fun _ _ _ h => nomatch h), hj⟩ ?_ ?_
  · rintro i v ys nx I oI C oC D m₂ g h tk E' hi hv ⟨tl, rfl, hA, hJ⟩ hC hx F N off ne
    exact turn i v ys tl I oI C oC D m₂ g h tk E' hi hv hJ hA hC hx F N off ne
  · rintro g ys nx ⟨tl, rfl, hA, hJ⟩
    exact done g ys tl hA hJ
end

def All2 {α : Type} (R : Value → α → Prop) (ys : List Value) (us : List α) (i : Nat) : Prop := ys.length = i ∧ ∀ (j : Nat) (y : Value) (u : α), ys[j]? = some y → us[j]? = some u → R y u
theorem All2.nil {α : Type} {R : Value → α → Prop} {us : List α} : All2 R [] us 0 := ⟨rfl, fun j y u h => by simp at h⟩
theorem All2.snoc {α : Type} {R : Value → α → Prop} {ys : List Value} {us : List α} {i : Nat} {r : Value} {u : α} (h : All2 R ys us i) (hu : us[i]? = some u) (hr : R r u) : All2 R (ys ++ [r]) us (i + 1) := by
  refine ⟨by rw [List.length_append, h.1]; rfl, fun j y v hj hv => ?_⟩
  rcases Nat.lt_or_ge j ys.length with hl | hl
  · rw [List.getElem?_append_left hl] at hj
    exact h.2 j y v hj hv
  · rw [List.getElem?_append_right hl] at hj
    have e : j - ys.length = 0 := by
      have := (List.getElem?_eq_some_iff.mp hj).1
      simp at this
      omega
    rw [e] at hj
    obtain rfl := Option.some.inj hj
    have e2 : j = i := by have := h.1; omega
    rw [e2, hu] at hv
    exact Option.some.inj hv ▸ hr
theorem All2.mono {α : Type} {R R' : Value → α → Prop} {ys : List Value} {us : List α} {i : Nat} (h : All2 R ys us i) (hr : ∀ y u, R y u → R' y u) : All2 R' ys us i := ⟨h.1, fun j y u h1 h2 => hr _ _ (h.2 j y u h1 h2)⟩
theorem filterMap_take {ls : List LT} {us : List Int} {i : Nat} {u : Int} (hu : us[i]? = some u) : (us.take (i + 1)).filterMap (pick ls) = (us.take i).filterMap (pick ls) ++ (pick ls u).toList := by
  rw [List.take_add_one, hu, List.filterMap_append]
  cases h : pick ls u <;> simp [h]
theorem DatAll.snoc1 {news : List (Addr × Obj)} {vs : List Value} {ds : List Dat} {v : Value} {d : Dat} (h : DatAll news vs ds) (k : DatIn news v d) : DatAll news (vs ++ [v]) (ds ++ [d]) := DatAll.append h (DatAll.one k)
theorem LettersIn.snoc1 {P : Params} {news : List (Addr × Obj)} {vs : List Value} {ls : List LT} {v : Value} {l : LT} (h : LettersIn P news vs ls) (k : LetterIn P news v l) : LettersIn P news (vs ++ [v]) (ls ++ [l]) := LettersIn.append h (.cons k .nil)
theorem pick_take_le {ls : List LT} {us : List Int} {i : Nat} : ((us.take i).filterMap (pick ls)).length ≤ i := by
  refine Nat.le_trans (List.length_filterMap_le _ _) ?_
  rw [List.length_take]
  exact Nat.min_le_left _ _

theorem memPerm {a b : List (Addr × Obj)} {p : Addr × Obj} : p ∈ a ++ b ↔ p ∈ a ∨ p ∈ b := List.mem_append

theorem sub3a {a b c : Addr × Obj} {r o : List (Addr × Obj)} : ∀ p ∈ a :: b :: c :: r, p ∈ a :: b :: c :: (r ++ o) := by
  intro p hp
  simp only [List.mem_cons, List.mem_append] at hp ⊢
  rcases hp with h | h | h | h <;> simp [h]
theorem sub3b {a b c : Addr × Obj} {r o : List (Addr × Obj)} : ∀ p ∈ o, p ∈ a :: b :: c :: (r ++ o) := by
  intro p hp
  simp only [List.mem_cons, List.mem_append]
  simp [hp]
theorem memL {a b c : List (Addr × Obj)} {p : Addr × Obj} (h : p ∈ b) : p ∈ (a ++ b) ++ c := List.mem_append.mpr (.inl (List.mem_append.mpr (.inr h)))
theorem offOwn {own nx : List (Addr × Obj)} {d : Addr} (h : OwnOff own (nx.map (·.1))) (hd : ∃ q ∈ nx, q.1 = d) : Off d own := by
  obtain ⟨q, hq, rfl⟩ := hd
  exact fun p hp => h p hp _ (List.mem_map.mpr ⟨q, hq, rfl⟩)

theorem permA {a b c : Addr × Obj} {x y z o : List (Addr × Obj)} : ∀ p ∈ a :: b :: c :: (((x ++ y) ++ z) ++ o), p ∈ a :: b :: (x ++ (c :: ((y ++ z) ++ o))) := by
  intro p hp
  simp only [List.mem_cons, List.mem_append] at hp ⊢
  rcases hp with h | h | h | ((h | h) | h) | h <;> simp [h]
theorem made_length : ∀ (K : List LT) (nu top : Int), (made nu top K).length = K.length
  | [], _, _ => rfl
  | _ :: r, nu, top => by rw [made, List.length_cons, made_length r, List.length_cons]
theorem pairsD_length : ∀ (K : List LT) (nu : Int), (pairsD nu K).length = K.length
  | [], _ => rfl
  | _ :: r, nu => by rw [pairsD, List.length_cons, pairsD_length r, List.length_cons]
theorem memX {x y z o : List (Addr × Obj)} {p : Addr × Obj} (h : p ∈ x) : p ∈ ((x ++ y) ++ z) ++ o := by simp [h]
theorem memZ {x y z o : List (Addr × Obj)} {p : Addr × Obj} (h : p ∈ z) : p ∈ ((x ++ y) ++ z) ++ o := by simp [h]

theorem aboveStep {d l c Dt : Addr} {o1 ot D2 L2 P2 : Obj} {x y z o : List (Addr × Obj)} (hd : @LT.lt Nat _ d Dt) (hl : @LT.lt Nat _ l Dt) (hp : @LT.lt Nat _ c Dt) (hA : AllLt Dt (((x ++ y) ++ z) ++ o))
    (h2 : Above ((d, D2) :: (l, L2) :: (c, P2) :: ((y ++ z) ++ o)) x) (h1 : Above ((d, o1) :: (l, o1) :: (c, o1) :: z) y) : Above ((d, o1) :: (l, o1) :: (c, o1) :: z) ((Dt, ot) :: (x ++ y)) := by
  intro q hq p hp'
  rcases List.mem_cons.mp hp' with rfl | hp'
  · simp only [List.mem_cons] at hq
    rcases hq with rfl | rfl | rfl | hq
    · exact hd
    · exact hl
    · exact hp
    · exact ktn_ltOf hA q (by simp [hq])
  · rcases List.mem_append.mp hp' with hp' | hp'
    · simp only [List.mem_cons] at hq
      rcases hq with rfl | rfl | rfl | hq
      · exact h2 (d, D2) (.head _) p hp'
      · exact h2 (l, L2) (.tail _ (.head _)) p hp'
      · exact h2 (c, P2) (.tail _ (.tail _ (.head _))) p hp'
      · exact h2 q (by simp [hq]) p hp'
    · exact h1 q hq p hp'
theorem offStep {d l c Dt : Addr} {ot D1 L1 P1 D2 L2 P2 D3 L3 P3 : Obj} {x y z o : List (Addr × Obj)} (hoff : OwnOff o (((d, D1) :: (l, L1) :: (c, P1) :: (y ++ z)).map (·.1))) (hA : AllLt Dt (((x ++ y) ++ z) ++ o))
    (h2 : Above ((d, D2) :: (l, L2) :: (c, P2) :: ((y ++ z) ++ o)) x) : OwnOff o (((d, D3) :: (l, L3) :: (c, P3) :: (((Dt, ot) :: (x ++ y)) ++ z)).map (·.1)) := by
  intro p hp b hb
  obtain ⟨q, hq, rfl⟩ := List.mem_map.mp hb
  have old : ∀ b ∈ ((d, D1) :: (l, L1) :: (c, P1) :: (y ++ z)).map (·.1), p.1 ≠ b := hoff p hp
  simp only [List.cons_append, List.mem_cons, List.mem_append] at hq
  rcases hq with rfl | rfl | rfl | rfl | (hq | hq) | hq
  · exact old d (.head _)
  · exact old l (.tail _ (.head _))
  · exact old c (.tail _ (.tail _ (.head _)))
  · exact Nat.ne_of_lt (ktn_ltOf hA p (by simp [hp]))
  · exact Nat.ne_of_lt (h2 p (by simp [hp]) q hq)
  · exact old q.1 (List.mem_map.mpr ⟨q, by simp [hq], rfl⟩)
  · exact old q.1 (List.mem_map.mpr ⟨q, by simp [hq], rfl⟩)
theorem permC {a b c e : Addr × Obj} {x y z o : List (Addr × Obj)} : ∀ p ∈ a :: b :: c :: ((e :: (x ++ y)) ++ z), p ∈ e :: a :: b :: c :: (((x ++ y) ++ z) ++ o) := by
  intro p hp
  simp only [List.cons_append, List.mem_cons, List.mem_append] at hp ⊢
  rcases hp with h | h | h | h | (h | h) | h <;> simp [h]
theorem permD {a b c e : Addr × Obj} {x o : List (Addr × Obj)} : ∀ p ∈ o, p ∈ e :: a :: b :: c :: (x ++ o) := by
  intro p hp
  simp [hp]
theorem permE {a b c : Addr × Obj} {x z r : List (Addr × Obj)} (hr : ∀ q ∈ r, q ∈ z) : ∀ p ∈ a :: b :: ((c :: x) ++ r), p ∈ a :: b :: c :: (x ++ z) := by
  intro p hp
  simp only [List.cons_append, List.mem_cons, List.mem_append] at hp ⊢
  rcases hp with h | h | h | h | h
  · simp [h]
  · simp [h]
  · simp [h]
  · simp [h]
  · simp [hr p h]
theorem aboveLast {d l c : Addr} {o1 D2 L2 P2 : Obj} {x z r : List (Addr × Obj)} (hd : @LT.lt Nat _ d c) (hl : @LT.lt Nat _ l c) (hA : AllLt c r) (h1 : Above ((d, o1) :: (l, o1) :: (c, o1) :: z) x) (hr : ∀ q ∈ r, q ∈ z) : Above ((d, D2) :: (l, L2) :: r) ((c, P2) :: x) := by
  intro q hq p hp
  rcases List.mem_cons.mp hp with rfl | hp
  · simp only [List.mem_cons] at hq
    rcases hq with rfl | rfl | hq
    · exact hd
    · exact hl
    · exact ktn_ltOf hA q hq
  · simp only [List.mem_cons] at hq
    rcases hq with rfl | rfl | hq
    · exact h1 (d, o1) (.head _) p hp
    · exact h1 (l, o1) (.tail _ (.head _)) p hp
    · exact h1 q (.tail _ (.tail _ (.tail _ (hr q hq)))) p hp
/-! a dict that tells whether an int was put into it -/
section
variable {prog : Program} {w : World} {A : Around} {E : Value → Shared → Prop} {s : Shared} {h₀ : Heap} {L d : Addr} {m : Str → Option Value} {news : List (Addr × Obj)} {o : Obj} {us : List Int}
def WantD (prog : Program) (w : World) (o : Obj) (us : List Int) : Prop :=
  ∃ (kvs : List (Int × Value)) (D : List (PyData × PyData)), o.IsDictOf (intKind prog w) kvs ∧ PyProof.V.FlatPairs PyData.int kvs D ∧ D.length ≤ us.length ∧ ∀ i : Int, (Spec.lookup (.int i) D).isSome = decide (i ∈ us)
theorem WantD.nil (h : o.IsDictOf (intKind prog w) []) : WantD prog w o [] := ⟨[], [], h, .nil, Nat.le_refl _, fun i => by simp [Spec.lookup]⟩
theorem WantD.look {i : Int} {D : List (PyData × PyData)} {k : Int} (h : ∀ i : Int, (Spec.lookup (.int i) D).isSome = decide (i ∈ us)) (dv : PyData) : (Spec.lookup (.int i) (PyProof.V.putD (.int k) dv D)).isSome = decide (i ∈ us ++ [k]) := by
  by_cases e : i = k
  · subst e
    rw [PyProof.V.lookup_putD_same]
    simp
  · rw [PyProof.V.lookup_putD_other e, h]
    simp [e]
theorem setW {g : Obj → List (Addr × Obj)} {i : Int} {t : Tok} {b : Bool} {Q : Unit → Shared → Prop} (hW : WantD prog w o us) (hz : us.length ≤ 1000) (F : Fr h₀ L s.heap m) (N : News h₀ L s.heap news) (U : UpdF d o news g)
    (h : ∀ h' o', Fr h₀ L h' m → News h₀ L h' (g o') → WantD prog w o' (us ++ [i]) → Q () { s with heap := h', toks := s.toks + 1 }) : wpAny (model prog w) A (setItem (.ref d) (.int i t) (.bool b)) Q E s := by
  obtain ⟨kvs, D, hd, hf, hl, hs⟩ := hW
  refine setItem_K PyProof.V.same_int (intKind_is _ _ _ _) (PyProof.V.Flat.bool _) F N U hd hf (fun h' o' F' N' hd' hf' => h h' o' F' N' ⟨_, _, hd', hf', ?_, fun j => WantD.look hs _⟩) (by rw [sizeLine_eq]; omega)
  have := PyProof.V.putD_length_le (PyData.int i) (.bool b) D
  rw [List.length_append, List.length_singleton]
  omega
theorem inW {i : Int} {t : Tok} {Q : Value → Shared → Prop} (hW : WantD prog w o us) (N : News h₀ L s.heap news) (hm : (d, o) ∈ news) (lo : (d == sysModules) = false) (h : Q (.bool (decide (i ∈ us))) { s with toks := s.toks + 1 }) :
    wpAny (model prog w) A (compareOp .In (.int i t) (.ref d)) Q E s := by
  obtain ⟨kvs, D, hd, hf, hl, hs⟩ := hW
  exact in_intTab (TabAt.ofNews N hm lo hd hf) (by rw [hs]; exact h)
theorem notinW {i : Int} {t : Tok} {Q : Value → Shared → Prop} (hW : WantD prog w o us) (N : News h₀ L s.heap news) (hm : (d, o) ∈ news) (lo : (d == sysModules) = false) (h : Q (.bool (!decide (i ∈ us))) { s with toks := s.toks + 1 }) :
    wpAny (model prog w) A (compareOp .NotIn (.int i t) (.ref d)) Q E s := by
  obtain ⟨kvs, D, hd, hf, hl, hs⟩ := hW
  exact notin_intTab (TabAt.ofNews N hm lo hd hf) (by rw [hs]; exact h)
end
section
variable {prog : Program} {w : World} {A : Around} {E : Value → Shared → Prop} {s : Shared} {h₀ : Heap} {L d : Addr} {m : Str → Option Value} {news : List (Addr × Obj)}
theorem allLt_mono {a b : Addr} {l : List (Addr × Obj)} (h : AllLt a l) (hab : @LE.le Nat _ a b) : AllLt b l := allLt_of fun q hq => Nat.lt_of_lt_of_le (ktn_ltOf h q hq) hab
theorem addL {a b : Addr} {xs ys : List Value} {n k : Nat} {Q : Value → Shared → Prop} (F : Fr h₀ L s.heap m) (N : News h₀ L s.heap news) (ha : (a, W.listOf xs.toArray n) ∈ news) (hb : (b, W.listOf ys.toArray k) ∈ news) (hz : xs.length + ys.length ≤ 16000)
    (h : ∀ D h', Fr h₀ L h' m → News h₀ L h' ((D, W.listOf (xs ++ ys).toArray 0) :: news) → AllLt D news → Q (.ref D) { s with heap := h' }) : wpAny (model prog w) A (binaryOp .Add (.ref a) (.ref b)) Q E s :=
  add_lists (hsz := by rw [sizeLine_eq]; omega) F N (News.isList N ha) (News.isList N hb) fun h' F' N' => h _ h' F' N' (allLt_of fun q hq => Heap.lt_size (N q hq).1)
theorem eqI {a b : Addr} {xs ys : List Value} {ns ms : List Int} {n k : Nat} {Q : Value → Shared → Prop} (N : News h₀ L s.heap news) (ha : (a, W.listOf xs.toArray n) ∈ news) (hb : (b, W.listOf ys.toArray k) ∈ news) (hi : IntsAre xs ns) (hj : IntsAre ys ms) (hu : A.units + 64 < cLine)
    (h : Q (.bool (decide (ns = ms))) s) : wpAny (model prog w) A (compareOp .Eq (.ref a) (.ref b)) Q E s := ke_eq_ints (News.isList N ha) (News.isList N hb) hi hj hu h
end
theorem permF {a b c e f : Addr × Obj} {r o : List (Addr × Obj)} : ∀ p ∈ a :: b :: c :: e :: f :: r, p ∈ a :: b :: c :: e :: f :: (r ++ o) := by
  intro p hp
  simp only [List.mem_cons, List.mem_append] at hp ⊢
  rcases hp with h | h | h | h | h | h <;> simp [h]
theorem permFr {a b c e f : Addr × Obj} {r o : List (Addr × Obj)} : ∀ p ∈ o, p ∈ a :: b :: c :: e :: f :: (r ++ o) := by
  intro p hp
  simp [hp]
def thereOf (ls : List LT) (us : List Int) : List Int := (ls.map (·.uid)).filter fun u => decide (u ∈ us)
def leftOf (ls : List LT) (us : List Int) : List LT := ls.filter fun x => !decide (x.uid ∈ us)
theorem left_all {ls : List LT} {us : List Int} (h : thereOf ls us = []) : leftOf ls us = ls := by
  unfold leftOf
  rw [List.filter_eq_self]
  intro x hx
  unfold thereOf at h
  rw [List.filter_eq_nil_iff] at h
  have := h x.uid (List.mem_map.mpr ⟨x, hx, rfl⟩)
  simpa using this
theorem filter_take {α : Type} {p : α → Bool} {l : List α} {i : Nat} {x : α} (h : l[i]? = some x) : (l.take (i + 1)).filter p = (l.take i).filter p ++ if p x = true then [x] else [] := by
  rw [List.take_add_one, h, List.filter_append]
  cases hp : p x <;> simp [hp]
theorem permG {e0 a1 e1 a2 a3 a4 a5 a6 : Addr × Obj} {r : List (Addr × Obj)} : ∀ q ∈ a1 :: a2 :: a3 :: a4 :: a5 :: a6 :: r, q ∈ e0 :: a1 :: e1 :: a2 :: a3 :: a4 :: a5 :: a6 :: r := by
  intro q hq
  simp only [List.mem_cons] at hq ⊢
  rcases hq with h | h | h | h | h | h | h <;> simp [h]
structure BS where
  ls : List LT
  nu : Int
  top : Int
  gd : List Dat
def addK (S : BS) (K : List LT) : BS := ⟨S.ls ++ made S.nu S.top K, S.nu + K.length, S.top + K.length, S.gd⟩
def expS (S : BS) (us : List Int) : BS := ⟨leftOf S.ls us, S.nu, S.top + (if thereOf S.ls us = [] then 0 else 1), S.gd ++ (thereOf S.ls us).map fun u => .tuple [.int u, .int (S.top + 1)]⟩
inductive OneAt (P : Params) (rest : List (Addr × Obj)) (b : Addr) (S : BS) (d l : Addr) : Obj → Obj → Prop
  | mk {gl : Addr} {t1 t2 t3 t4 t5 t6 t7 k3 k4 : Tok} {nm va f0 : Value} {vs gs : List Value} {n gn : Nat} :
      (b, instObj 158 d) ∈ rest → LettersIn P rest vs S.ls → (gl, W.listOf gs.toArray gn) ∈ rest → DatAll rest gs S.gd → @Ne Nat d l → Off d rest → Off l rest →
      OneAt P rest b S d l (boxD P t1 t2 t3 t4 t5 t6 t7 nm va (.int S.nu k3) (.int S.top k4) f0 (.ref l) (.ref gl)) (W.listOf vs.toArray n)
theorem OneAt.grow {P : Params} {rest tl : List (Addr × Obj)} {b : Addr} {S : BS} {d l : Addr} {D O : Obj} (h : OneAt P rest b S d l D O) (hd : Off d tl) (hl : Off l tl) : OneAt P (tl ++ rest) b S d l D O := by
  have sub : ∀ q ∈ rest, q ∈ tl ++ rest := fun q hq => List.mem_append.mpr (.inr hq)
  cases h with
  | mk h1 h2 h3 h4 h5 h6 h7 => exact .mk (sub _ h1) (h2.mono sub) (sub _ h3) (h4.mono sub) h5 (offApp hd h6) (offApp hl h7)
/-- rows of a ledger, named by their places -/
theorem subI {α : Type} {l l' r' : List α} (is : List Nat) (k : Nat) (h : l' = is.filterMap (fun i => l[i]?) ++ r') (hr : ∀ q ∈ r', q ∈ l.drop k) : ∀ q ∈ l', q ∈ l := by
  intro q hq
  rw [h] at hq
  rcases List.mem_append.mp hq with hq | hq
  · obtain ⟨i, _, hi⟩ := List.mem_filterMap.mp hq
    exact List.mem_of_getElem? hi
  · exact List.mem_of_mem_drop (hr q hq)
theorem subE {α : Type} {l l' : List α} (is : List Nat) (k : Nat) (h : l' = is.filterMap (fun i => l[i]?) ++ l.drop k) : ∀ q ∈ l', q ∈ l := subI is k h fun _ h => h
theorem atI {α : Type} {l : List α} {x : α} (i : Nat) (h : l[i]? = some x) : x ∈ l := List.mem_of_getElem? h
theorem offC {d a : Addr} {o : Obj} {l : List (Addr × Obj)} (h : @Ne Nat a d) (t : Off d l) : Off d ((a, o) :: l) := fun p hp => by
  rcases List.mem_cons.mp hp with rfl | hp
  · exact h
  · exact t p hp
theorem aboveL {a : Addr} {o : Obj} {l tl : List (Addr × Obj)} (h : ∀ p ∈ tl, @LT.lt Nat _ a p.1) (t : Above l tl) : Above ((a, o) :: l) tl := fun q hq p hp => by
  rcases List.mem_cons.mp hq with rfl | hq
  · exact h p hp
  · exact t q hq p hp
theorem aboveR {a : Addr} {o : Obj} {l tl : List (Addr × Obj)} (h : ∀ q ∈ l, @LT.lt Nat _ q.1 a) (t : Above l tl) : Above l ((a, o) :: tl) := fun q hq p hp => by
  rcases List.mem_cons.mp hp with rfl | hp
  · exact h q hq
  · exact t q hq p hp
theorem aboveNil {l : List (Addr × Obj)} : Above l [] := fun _ _ _ h => nomatch h
theorem aboveSub {l l' tl : List (Addr × Obj)} (h : Above l tl) (hs : ∀ q ∈ l', q ∈ l) : Above l' tl := fun q hq => h q (hs q hq)
theorem aboveApp {l a b : List (Addr × Obj)} (ha : Above l a) (hb : Above l b) : Above l (a ++ b) := fun q hq p hp => (List.mem_append.mp hp).elim (ha q hq p) (hb q hq p)
section
variable {prog : Program} {w : World} {p : Program} {loose : List Str} {mean : ExcName → Option Value} {mg mb : Str → Option Value}
theorem does_sub {k : Nat} {f : Addr} {vs : List Value} {news news' : List (Addr × Obj)} {Post : Value → List (Addr × Obj) → Prop} (hs : ∀ q ∈ news', q ∈ news)
    (C : Does prog w p loose mean mg mb k f vs news' Post) : Does prog w p loose mean mg mb k f vs news Post := by
  unfold Does
  intro dp un gd cn cs a ccd cl outer A₀ base h₀ L m s Q E B F X N T hk hdp hun hret
  exact C _ _ _ _ _ _ _ _ _ _ _ _ _ _ _ _ _ B F X (cb_drop N hs) T hk hdp hun hret
theorem does_post {k : Nat} {f : Addr} {vs : List Value} {news : List (Addr × Obj)} {Post Post' : Value → List (Addr × Obj) → Prop}
    (C : Does prog w p loose mean mg mb k f vs news Post) (h : ∀ r nx, Post r nx → ∃ nx', (∀ q ∈ nx', q ∈ nx) ∧ Post' r nx') : Does prog w p loose mean mg mb k f vs news Post' := by
  unfold Does
  intro dp un gd cn cs a ccd cl outer A₀ base h₀ L m s Q E B F X N T hk hdp hun hret
  refine C _ _ _ _ _ _ _ _ _ _ _ _ _ _ _ _ _ B F X N T hk hdp hun fun r nx h' tk' F' N' hp => ?_
  obtain ⟨nx', hs, hp'⟩ := h _ _ hp
  exact hret r nx' h' tk' F' (cb_drop N' hs) hp'
end
local macro_rules | `(tactic| k_steps) => `(tactic| repeat' (first | (k_unfold; (try dsimp only)) | walk1 | (dsimp only; walk1) | (leave1; (try dsimp only)) | fail "no step"))
local macro_rules | `(tactic| k_mem) => `(tactic| first | with_reducible assumption | assumption)
local macro_rules | `(tactic| k_room) => `(tactic| ktr_room)
local macro_rules | `(tactic| k_ne) => `(tactic| (refine neN ?_; (try dsimp only); first | with_reducible assumption | (refine Ne.symm ?_; with_reducible assumption) | omega))
local macro_rules | `(tactic| k_all) => `(tactic| first | exact offNe (by assumption) | exact ltNe (by assumption))
local macro_rules | `(tactic| walk_at "KswEnd") => `(tactic| (refine hold_tree ?_))
local macro_rules | `(tactic| walk_at "InvEndG") => `(tactic| (refine hold_tree ?_))
local macro_rules | `(tactic| walk_at "InvEndN") => `(tactic| (refine hold_tree ?_))
local macro_rules | `(tactic| walk_at "exec For Name Name cons nil") => `(tactic| (k_here; (rename Fr _ _ _ _ => lF'); (with_unfolding_all refine' For_invVF lF' ?k1 ?k2 ?_; (case k1 => exact rfl); (case k2 => exact rfl); k_whole)))
local macro_rules | `(tactic| walk_at "exec For Name Call cons nil") => `(tactic| (k_here; (rename Fr _ _ _ _ => lF'); (with_unfolding_all refine' For_invVF lF' ?k1 ?k2 ?_; (case k1 => exact rfl); (case k2 => exact rfl); k_whole)))
local macro_rules | `(tactic| walk_at "pyIter ref") => `(tactic| ((with_reducible show wpAny _ _ (pyIter (Value.ref _)) (fun it s₂ => LoopAtV _ _ _ _ _ _ _ _ _ it s₂) _ _); refine hold_tree ?_))
local macro_rules | `(tactic| walk_at "exec While Compare cons nil") => `(tactic| (refine hold_tree ?_))
local macro_rules | `(tactic| walk_at "call builtin:len") => `(tactic| (k_here; (with_reducible show wpAny _ _ (call (Value.builtin "len") [Value.ref _]) _ _ _); k_dflt (refine' lenL ?N ?m ?z ?_; (case N => k_asm); (case m => k_mem); (case z => assumption); k_whole)))
local macro_rules | `(tactic| walk_at "exec For Name ListComp cons nil") => `(tactic| (k_here; (rename Fr _ _ _ _ => lF'); (with_unfolding_all refine' For_invVF lF' ?k1 ?k2 ?_; (case k1 => exact rfl); (case k2 => exact rfl); k_whole)))
local macro_rules | `(tactic| walk_at "CompSrc") => `(tactic| (refine hold_tree ?_))
local macro_rules | `(tactic| walk_at "CompSrcT") => `(tactic| (refine hold_tree ?_))
local macro_rules | `(tactic| walk_at "CompEnd") => `(tactic| (refine hold_tree ?_))
local macro_rules | `(tactic| walk_at "eval ListComp") => `(tactic| (k_here; (with_reducible show wpAny _ _ (eval (PySem.Expr.ListComp _ [PySem.Comprehension.mk (PySem.Expr.Name _ _) _ [] _] _ _) _) _ _ _); k_dflt (refine LCg.ListComp_U (F₀ := by k_asm) (by with_unfolding_all rfl) (by decide) (by rfl) (by decide) (by rfl) ?_)))
local macro_rules | `(tactic| walk_at "eval ListComp") => `(tactic| (k_here; (with_reducible show wpAny _ _ (eval (PySem.Expr.ListComp _ [PySem.Comprehension.mk (PySem.Expr.Name _ _) _ [_] _] _ _) _) _ _ _); k_dflt (refine LCt.ListComp_T (F₀ := by k_asm) (by with_unfolding_all rfl) (by decide) (by rfl) (by decide) (by rfl) ?_)))
local macro_rules | `(tactic| walk_at "exec Assign cons ListComp") => `(tactic| (k_here; (with_reducible show wpAny _ _ (exec (PySem.Stmt.Assign [PySem.Expr.Name _ _] (PySem.Expr.ListComp _ [PySem.Comprehension.mk (PySem.Expr.Name _ _) _ [] _] _ _) _) _) _ _ _); k_dflt (refine' LCg.Assign_ListComp_U (F₀ := by k_asm) ?a1 ?a2 ?a3 ?a4 ?a5 ?a6 ?a7 ?a8 ?a9 ?_; (case a1 => rfl); (case a3 => with_unfolding_all rfl); (case a4 => decide); (case a5 => rfl); (case a6 => decide); (case a7 => rfl); (case a8 => rfl); (case a9 => rfl); (case a2 => with_unfolding_all rfl))))
local macro_rules | `(tactic| walk_at "exec Assign cons ListComp") => `(tactic| (k_here; (with_reducible show wpAny _ _ (exec (PySem.Stmt.Assign [PySem.Expr.Name _ _] (PySem.Expr.ListComp _ [PySem.Comprehension.mk (PySem.Expr.Name _ _) _ [_] _] _ _) _) _) _ _ _); k_dflt (refine' LCt.Assign_ListComp_T (F₀ := by k_asm) ?a1 ?a2 ?a3 ?a4 ?a5 ?a6 ?a7 ?a8 ?a9 ?_; (case a1 => rfl); (case a3 => with_unfolding_all rfl); (case a4 => decide); (case a5 => rfl); (case a6 => decide); (case a7 => rfl); (case a8 => rfl); (case a9 => rfl); (case a2 => with_unfolding_all rfl))))
/-- fills the walk's own tables: the written part of the heap -/
theorem filled (h : False) : PySem.Challenge.rw_nz0285_01.Holds := by
  refine hd ?_
  k_fill
  exact h.elim
theorem fresh_m2 : True ∧ True := by
  w_top off
  first | (walk1; done) | exact ⟨trivial, trivial⟩
section
variable {prog : Program} {w : World} {p : Program} {loose : List Str} {mean : ExcName → Option Value} {mg mb : Str → Option Value} {t : Tok} {news : List (Addr × Obj)}



theorem fresh_m2_1 : True ∧ True := by
  w_top off
  first | (walk1; done) | exact ⟨trivial, trivial⟩
section
local macro_rules | `(tactic| walk_at "pyIter str") => `(tactic| (k_here; k_dflt (refine' loopS [] ?hh ?F ?N ?_ ?_; (case hh => exact rfl); (case F => k_asm); (case N => k_asm)); k_whole))
theorem isk_new : Does prog w p loose mean mg mb 2 75 [.str (Str.ofString "new") t] news (fun r news' => r = .bool true ∧ news' = news) := by
  unfold Does
  intro dp un gd cn cs a ccd cl outer A₀ base h₀ L m s Q E B F X N T hk hdp hun hret
  refine wpAny_call ?_
  k_dflt ktr_enter
  k_steps
  · intro i c t' u h tk own hv hoff F1 N1
    match i, hv with
    | 0, hv =>
      obtain rfl : 110 = c := Option.some.inj ((by decide : (Str.ofString "new").cps[0]? = some 110).symm.trans hv)
      k_steps
      · exact turn_stillN F1 N1 (fun _ h => h) same_here
      · exact absurd (by assumption : (Builtin.Str.occurrences _ _ _ _ _).isEmpty = false) (by decide +kernel)
    | 1, hv =>
      obtain rfl : 101 = c := Option.some.inj ((by decide : (Str.ofString "new").cps[1]? = some 101).symm.trans hv)
      k_steps
      · exact turn_stillN F1 N1 (fun _ h => h) same_here
      · exact absurd (by assumption : (Builtin.Str.occurrences _ _ _ _ _).isEmpty = false) (by decide +kernel)
    | 2, hv =>
      obtain rfl : 119 = c := Option.some.inj ((by decide : (Str.ofString "new").cps[2]? = some 119).symm.trans hv)
      k_steps
      · exact turn_stillN F1 N1 (fun _ h => h) same_here
      · exact absurd (by assumption : (Builtin.Str.occurrences _ _ _ _ _).isEmpty = false) (by decide +kernel)
    | k + 3, hv =>
      rw [(show (Str.ofString "new").cps = #[110, 101, 119] by decide)] at hv
      simp at hv
  · exact hret _ _ _ _ (by assumption) (by assumption) ⟨rfl, rfl⟩
end
local macro_rules | `(tactic| walk_at "call ref") => `(tactic| (k_here; (with_reducible show wpAny _ _ (call (Value.ref 75) _) _ _ _); k_dflt (refine' does_use ?k1 ?k2 ?k3 ?k4 ?k5 ?k6 isk_new ?k7 ?k8 ?_; (case k1 => k_asm); (case k2 => k_asm); (case k3 => k_asm); (case k4 => k_asm); (case k5 => k_asm); (case k6 => first | exact rfl | assumption); (case k7 => ktr_room); (case k8 => ktr_units)); intro r' news' h' tk' F' N' hp'; obtain ⟨hr', hn'⟩ := hp'; subst hr' hn'))

theorem fn_answered : Does prog w p loose mean mg mb 4 82 [.str (Str.ofString "\\Answered") t] news (fun r news' => (∃ x tk, r = .str x tk ∧ x = Str.ofString "\\Answered") ∧ news' = news) := by
  unfold Does
  intro dp un gd cn cs a ccd cl outer A₀ base h₀ L m s Q E B F X N T hk hdp hun hret
  refine wpAny_call ?_
  k_dflt ktr_enter
  k_steps
  refine loopU [] (fun i nx => i ≤ 1 ∧ ∀ q ∈ news, q ∈ nx) (by rfl) (by first | exact List.Mem.head _) (by k_asm) (by k_asm) ⟨by omega, fun q hq => .tail _ hq⟩ ?_ ?_
  · intro i v u nx h tk own hv hoff hl' hJ F1 N1
    obtain ⟨hi, hs⟩ := hJ
    match i, hi with
    | 0, _ =>
      obtain rfl := Option.some.inj hv
      k_steps
      exact turn_still F1 N1 (fun _ h => h) hoff hl' ⟨by omega, hs⟩ same_here
    | 1, _ =>
      obtain rfl := Option.some.inj hv
      k_steps
      exact hret _ _ _ _ (by assumption) (cb_drop (by assumption) fun p hp => List.mem_append.mpr (.inl (hs p hp))) ⟨⟨_, _, rfl, by decide⟩, rfl⟩
  · intro u nx h tk hJ
    exact absurd hJ.1 (by simp)

theorem fn_deleted : Does prog w p loose mean mg mb 4 82 [.str (Str.ofString "\\Deleted") t] news (fun r news' => (∃ x tk, r = .str x tk ∧ x = Str.ofString "\\Deleted") ∧ news' = news) := by
  unfold Does
  intro dp un gd cn cs a ccd cl outer A₀ base h₀ L m s Q E B F X N T hk hdp hun hret
  refine wpAny_call ?_
  k_dflt ktr_enter
  k_steps
  refine loopU [] (fun i nx => i ≤ 3 ∧ ∀ q ∈ news, q ∈ nx) (by rfl) (by first | exact List.Mem.head _) (by k_asm) (by k_asm) ⟨by omega, fun q hq => .tail _ hq⟩ ?_ ?_
  · intro i v u nx h tk own hv hoff hl' hJ F1 N1
    obtain ⟨hi, hs⟩ := hJ
    match i, hi with
    | 0, _ =>
      obtain rfl := Option.some.inj hv
      k_steps
      exact turn_still F1 N1 (fun _ h => h) hoff hl' ⟨by omega, hs⟩ same_here
    | 1, _ =>
      obtain rfl := Option.some.inj hv
      k_steps
      exact turn_still F1 N1 (fun _ h => h) hoff hl' ⟨by omega, hs⟩ same_here
    | 2, _ =>
      obtain rfl := Option.some.inj hv
      k_steps
      exact turn_still F1 N1 (fun _ h => h) hoff hl' ⟨by omega, hs⟩ same_here
    | 3, _ =>
      obtain rfl := Option.some.inj hv
      k_steps
      exact hret _ _ _ _ (by assumption) (cb_drop (by assumption) fun p hp => List.mem_append.mpr (.inl (hs p hp))) ⟨⟨_, _, rfl, by decide⟩, rfl⟩
  · intro u nx h tk hJ
    exact absurd hJ.1 (by simp)

theorem fn_seen : Does prog w p loose mean mg mb 4 82 [.str (Str.ofString "\\Seen") t] news (fun r news' => (∃ x tk, r = .str x tk ∧ x = Str.ofString "\\Seen") ∧ news' = news) := by
  unfold Does
  intro dp un gd cn cs a ccd cl outer A₀ base h₀ L m s Q E B F X N T hk hdp hun hret
  refine wpAny_call ?_
  k_dflt ktr_enter
  k_steps
  refine loopU [] (fun i nx => i ≤ 0 ∧ ∀ q ∈ news, q ∈ nx) (by rfl) (by first | exact List.Mem.head _) (by k_asm) (by k_asm) ⟨by omega, fun q hq => .tail _ hq⟩ ?_ ?_
  · intro i v u nx h tk own hv hoff hl' hJ F1 N1
    obtain ⟨hi, hs⟩ := hJ
    match i, hi with
    | 0, _ =>
      obtain rfl := Option.some.inj hv
      k_steps
      exact hret _ _ _ _ (by assumption) (cb_drop (by assumption) fun p hp => List.mem_append.mpr (.inl (hs p hp))) ⟨⟨_, _, rfl, by decide⟩, rfl⟩
  · intro u nx h tk hJ
    exact absurd hJ.1 (by simp)

theorem fn_new : Does prog w p loose mean mg mb 4 82 [.str (Str.ofString "new") t] news (fun r news' => (∃ x tk, r = .str x tk ∧ x = Str.ofString "new") ∧ news' = news) := by
  unfold Does
  intro dp un gd cn cs a ccd cl outer A₀ base h₀ L m s Q E B F X N T hk hdp hun hret
  refine wpAny_call ?_
  k_dflt ktr_enter
  k_steps
  refine loopU [] (fun i nx => ∀ q ∈ news, q ∈ nx) (by rfl) (by first | exact List.Mem.head _) (by k_asm) (by k_asm) (fun q hq => .tail _ hq) ?_ ?_
  · intro i v u nx h tk own hv hoff hl' hs F1 N1
    match i, hv with
    | 0, hv =>
      obtain rfl := Option.some.inj hv
      k_steps
      exact turn_still F1 N1 (fun _ h => h) hoff hl' hs same_here
    | 1, hv =>
      obtain rfl := Option.some.inj hv
      k_steps
      exact turn_still F1 N1 (fun _ h => h) hoff hl' hs same_here
    | 2, hv =>
      obtain rfl := Option.some.inj hv
      k_steps
      exact turn_still F1 N1 (fun _ h => h) hoff hl' hs same_here
    | 3, hv =>
      obtain rfl := Option.some.inj hv
      k_steps
      exact turn_still F1 N1 (fun _ h => h) hoff hl' hs same_here
    | 4, hv =>
      obtain rfl := Option.some.inj hv
      k_steps
      exact turn_still F1 N1 (fun _ h => h) hoff hl' hs same_here
    | _ + 5, hv => cases hv
  · intro u nx h tk hJ F1 N1
    k_steps
    exact hret _ _ _ _ (by assumption) (cb_drop (by assumption) hJ) ⟨⟨_, _, rfl, by decide⟩, rfl⟩
theorem fn_known {x : Str} (hx : x ∈ Known) : Does prog w p loose mean mg mb 4 82 [.str x t] news (fun r news' => (∃ tk, r = .str x tk) ∧ news' = news) := by
  have fin : ∀ y, Does prog w p loose mean mg mb 4 82 [.str y t] news (fun r news' => (∃ x tk, r = .str x tk ∧ x = y) ∧ news' = news) → Does prog w p loose mean mg mb 4 82 [.str y t] news (fun r news' => (∃ tk, r = .str y tk) ∧ news' = news) :=
    fun y h => does_mono h fun r nx ⟨⟨z, tk, e1, e2⟩, e3⟩ => ⟨⟨tk, by rw [e1, e2]⟩, e3⟩
  unfold Known at hx
  simp only [List.mem_cons, List.not_mem_nil, or_false] at hx
  rcases hx with rfl | rfl | rfl | rfl
  · exact fin _ fn_answered
  · exact fin _ fn_deleted
  · exact fin _ fn_seen
  · exact fin _ fn_new
end

theorem fresh_m3 : True ∧ True := by
  w_top off
  first | (walk1; done) | exact ⟨trivial, trivial⟩
theorem fresh_m3_1 : True ∧ True := by
  w_top off
  first | (walk1; done) | exact ⟨trivial, trivial⟩
section
variable {prog : Program} {w : World} {p : Program} {loose : List Str} {mean : ExcName → Option Value} {mg mb : Str → Option Value} {t : Tok} {news : List (Addr × Obj)}
local macro_rules | `(tactic| walk_at "call ref") => `(tactic| (k_here; (with_reducible show wpAny _ _ (call (Value.ref 82) _) _ _ _); k_dflt (refine' does_use ?k1 ?k2 ?k3 ?k4 ?k5 ?k6 (fn_known ?kx) ?k7 ?k8 ?_; (case kx => assumption); (case k1 => k_asm); (case k2 => k_asm); (case k3 => k_asm); (case k4 => k_asm); (case k5 => k_asm); (case k6 => first | exact rfl | assumption); (case k7 => ktr_room); (case k8 => ktr_units)); intro r' news' h' tk' F' N' hp'; obtain ⟨hr', hn'⟩ := hp'; obtain ⟨tt', hr'⟩ := hr'; subst hr' hn'))
theorem notin_no {prog : Program} {w : World} {A : Around} {E : Value → Shared → Prop} {s : Shared} {l : Addr} {vs : List Value} {ys : List Str} {k : Str} {t : Tok} {Q : Value → Shared → Prop} (hl : s.heap.IsList l vs.toArray) (hi : StrsAre vs ys)
    (hn : ys.any (· == k) = false) (h : Q (.bool true) s) : wpAny (model prog w) A (compareOp .NotIn (.str k t) (.ref l)) Q E s :=
  notin_list_strs hl hi (by rw [hn]; exact h)
local macro_rules | `(tactic| walk_at "compareOp NotIn str ref") => `(tactic| (k_here; (with_reducible show wpAny _ _ (compareOp CmpOp.NotIn (Value.str _ _) (Value.ref _)) _ _ _); (with_unfolding_all refine' notin_no ?k1 ?k2 ?k3 ?_; (case k1 => exact News.isList (by k_asm) (by k_mem)); (case k2 => assumption); (case k3 => assumption); k_whole)))

local macro_rules | `(tactic| walk_at "call type:tuple") => `(tactic| (k_here; (with_reducible show wpAny _ _ (call (Value.type _) [Value.ref _]) _ _ _); k_dflt (refine' kde_tupleOf ?k1 ?k2 ?k3 ?k4 ?k5 ?_; (case k1 => k_asm); (case k2 => k_asm); (case k3 => exact News.isList (by k_asm) (by k_mem)); (case k4 => exact Nat.le_trans (by assumption : _ ≤ 4) (by decide)); (case k5 => exact rfl); k_whole); intro D' h' F' N' l1; (try k_lt l1); (try k_sweep)))
theorem flag_tuple_does {a : Addr} {o : Obj} {vs : List Value} {fl : List Str} (hm : (a, o) ∈ news) (hsrc : SrcObj o vs) (hS : StrsAre vs fl) (hf : FlagsOk fl) :
    Does prog w p loose mean mg mb 6 89 [.ref a] news (fun r news' => ∃ D fv k, r = .ref D ∧ news' = (D, tupObj fv k) :: news ∧ StrsAre fv fl ∧ AllLt D news) := by
  unfold Does
  intro dp un gd cn cs a ccd cl outer A₀ base h₀ L m s Q E B F X N T hk hdp hun hret
  refine wpAny_call ?_
  k_dflt ktr_enter
  k_steps
  rename_i Df hh1 l1 hh2 lF N0
  have hl4 := hS.length
  have hf4 := hf.short
  unfold Hold
  refine loopQ hsrc [Str.ofString "name"] (fun i nx => ∃ (fa : Array Value) (n1 : Nat), nx = (Df, W.listOf fa n1) :: news ∧ StrsAre fa.toList (fl.take i)) (by rfl) (List.Mem.tail _ hm) lF N0 ⟨_, _, rfl, StrsAre.nil⟩ ?_ ?_
  · rintro i v u nx h tk own hv hoff hl' ⟨fa, n1, rfl, hS1⟩ F1 N1
    have hi : i < fl.length := by rw [← hl4]; exact (List.getElem?_eq_some_iff.mp hv).1
    obtain ⟨x, t, rfl, hx⟩ := strsAt hS hv
    have hxk : x ∈ Known := hf.known x (List.mem_of_getElem? hx)
    have hno := not_before hf.nodup hx
    have hofs : Off Df (news ++ own) := fun p hp => (List.mem_append.mp hp).elim (fun h => Nat.ne_of_lt (l1 p h)) fun h => hoff p h Df (.head _)
    have hsz : fa.size ≤ sizeLine := by
      have := hS1.length
      rw [Array.length_toList, List.length_take] at this
      rw [sizeLine_eq]; omega
    rw [List.cons_append] at N1
    k_steps
    refine turn_end ((Df, W.listOf (fa.push (.str x _)) (n1 + 1)) :: news) (by assumption) (by assumption) sub1 sub1r hoff (.tail _ hm) ⟨_, _, rfl, ?_⟩ (same_st (by rfl) same_here)
    rw [Array.toList_push, List.take_add_one, hx]
    exact StrsAre.append' hS1 (.cons _ _ .nil)
  · rintro u nx h tk ⟨fa, n1, rfl, hS1⟩ F1 N1
    rw [hl4, List.take_length] at hS1
    obtain ⟨fv⟩ := fa
    have hS2 : StrsAre fv fl := hS1
    have hl5 : fv.length = fl.length := hS2.length
    k_steps
    refine sorted_N_str (by assumption) (by assumption) (News.isList (by assumption) (.head _)) hS2 (by omega) fun h' vs' ss' e F' N' hS' hp' hs' => ?_
    obtain rfl := flags_sorted hf hp' hs'
    have hl6 : vs'.length = ss'.length := hS'.length
    have hsz : vs'.toArray.size ≤ 4 := by rw [List.size_toArray]; omega
    k_steps
    rename_i l2 _ _ _ _
    exact hret _ _ _ _ (by assumption) (cb_drop (by assumption) sub3) ⟨_, _, _, rfl, rfl, hS', l2.2.2⟩
end

theorem fresh_m4 : True ∧ True := by
  w_top off
  first | (walk1; done) | exact ⟨trivial, trivial⟩
theorem fresh_m4_1 : True ∧ True := by
  w_top off
  first | (walk1; done) | exact ⟨trivial, trivial⟩
section
variable {prog : Program} {w : World} {p : Program} {loose : List Str} {mean : ExcName → Option Value} {mg mb : Str → Option Value} {t : Tok} {news : List (Addr × Obj)}
local macro_rules | `(tactic| walk_at "call ref") => `(tactic| (k_here; (with_reducible show wpAny _ _ (call (Value.ref 89) _) _ _ _); k_dflt (refine' does_use ?k1 ?k2 ?k3 ?k4 ?k5 ?k6 (flag_tuple_does ?m1 ?m2 ?m3 ?m4) ?k7 ?k8 ?_; (case k1 => k_asm); (case k2 => k_asm); (case k3 => k_asm); (case k4 => k_asm); (case k5 => k_asm); (case k6 => first | exact rfl | assumption); (case m1 => (refine List.Mem.tail _ (List.Mem.tail _ ?_); assumption)); (case m2 => assumption); (case m3 => assumption); (case m4 => assumption); (case k7 => ktr_room); (case k8 => ktr_units)); intro r' news' h' tk' F' N' hp'; obtain ⟨D', fv', kk', hr', hn', hS', hlt'⟩ := hp'; subst hr' hn'; simp only [AllLt] at hlt'))

theorem add_letter_does {b d l fa : Addr} {o : Obj} {vs : List Value} {fl : List Str} {oct : Array UInt8} {k1 k2 k3 k4 t1 t2 t3 t4 t5 t6 t7 : Tok} {inst nu top : Int} {nm va f0 gn : Value} {its : Array Value} {n : Nat} {rest : List (Addr × Obj)}
    (hb : (b, instObj 158 d) ∈ rest) (hdl : @Ne Nat d l) (hd : Off d rest) (hl : Off l rest) (hm : (fa, o) ∈ rest) (hsrc : SrcObj o vs) (hS : StrsAre vs fl) (hf : FlagsOk fl) (hsz : its.size ≤ 1000) :
    Does prog w p loose mean mg mb 10 183 [.ref b, .bytes oct k1, .ref fa, .int inst k2] ((d, boxD w.params t1 t2 t3 t4 t5 t6 t7 nm va (.int nu k3) (.int top k4) f0 (.ref l) gn) :: (l, W.listOf its n) :: rest)
      (fun r news' => ∃ a tl k3' k4', r = .ref a ∧ news' = (d, boxD w.params t1 t2 t3 t4 t5 t6 t7 nm va (.int (nu + 1) k3') (.int (top + 1) k4') f0 (.ref l) gn) :: (l, W.listOf (its.push (.ref a)) (n + 1)) :: (tl ++ rest) ∧
        LetterIn w.params tl (.ref a) ⟨nu, oct, fl, inst, top + 1⟩ ∧ Above ((d, boxD w.params t1 t2 t3 t4 t5 t6 t7 nm va (.int nu k3) (.int top k4) f0 (.ref l) gn) :: (l, W.listOf its n) :: rest) tl) := by
  unfold Does
  intro dp un gd cn cs a ccd cl outer A₀ base h₀ L m s Q E B F X N T hk hdp hun hret
  refine wpAny_call ?_
  k_dflt ktr_enter
  k_steps
  rename_i kF kN _ _
  rename (@LT.lt Nat _ d _ ∧ @LT.lt Nat _ l _ ∧ AllLt _ rest) => hA
  rename (@LT.lt Nat _ _ _ ∧ @LT.lt Nat _ d _ ∧ @LT.lt Nat _ l _ ∧ AllLt _ rest) => hB
  rename (@LT.lt Nat _ _ _) => hC
  have hB4 := hB.2.2.2
  refine hret _ _ _ _ kF (cb_drop kN perm5) ⟨_, [_, _, _], _, _, rfl, rfl, .mk (.head _) (.tail _ (.head _)) (.tail _ (.tail _ (.head _))) (by assumption) hf, above3 (lt2 ?_ ?_ ?_) (lt2 ?_ ?_ ?_) (lt2 ?_ ?_ ?_)⟩
  · show @LT.lt Nat _ d _; omega
  · show @LT.lt Nat _ l _; omega
  · exact allLt_of fun q hq => Nat.lt_trans (ktn_ltOf hB4 q hq) hC
  · exact hB.2.1
  · exact hB.2.2.1
  · exact hB4
  · exact hA.1
  · exact hA.2.1
  · exact hA.2.2
end

theorem fresh_m4b : True ∧ True := by
  w_top off
  first | (walk1; done) | exact ⟨trivial, trivial⟩
/-- a box after one more letter -/
inductive AddPost (P : Params) (R rest : List (Addr × Obj)) (b : Addr) (S : BS) (d l : Addr) (D O : Obj) (oct : Array UInt8) (fl : List Str) (inst : Int) : Value → List (Addr × Obj) → Prop
  | mk {a : Addr} {tl : List (Addr × Obj)} {D' O' : Obj} : OneAt P (tl ++ R) b ⟨S.ls ++ [⟨S.nu, oct, fl, inst, S.top + 1⟩], S.nu + 1, S.top + 1, S.gd⟩ d l D' O' → LetterIn P tl (.ref a) ⟨S.nu, oct, fl, inst, S.top + 1⟩ → Above ((d, D) :: (l, O) :: rest) tl →
      AddPost P R rest b S d l D O oct fl inst (.ref a) ((d, D') :: (l, O') :: (tl ++ rest))
section
variable {prog : Program} {w : World} {p : Program} {loose : List Str} {mean : ExcName → Option Value} {mg mb : Str → Option Value}
theorem add_one {b d l fa : Addr} {o D O : Obj} {vs : List Value} {fl : List Str} {oct : Array UInt8} {k1 k2 : Tok} {inst : Int} {S : BS} {R rest : List (Addr × Obj)} (h : OneAt w.params R b S d l D O) (hs : ∀ q ∈ R, q ∈ rest) (hd : Off d rest) (hl : Off l rest)
    (hm : (fa, o) ∈ rest) (hsrc : SrcObj o vs) (hS : StrsAre vs fl) (hf : FlagsOk fl) (hsz : S.ls.length ≤ 1000) :
    Does prog w p loose mean mg mb 10 183 [.ref b, .bytes oct k1, .ref fa, .int inst k2] ((d, D) :: (l, O) :: rest) (AddPost w.params R rest b S d l D O oct fl inst) := by
  cases h with
  | @mk gl t1 t2 t3 t4 t5 t6 t7 k3 k4 nm va f0 vs' gs n gn a1 a2 a3 a4 a5 a6 a7 =>
    refine does_mono (add_letter_does (hs _ a1) a5 hd hl hm hsrc hS hf (by rw [List.size_toArray, a2.length]; exact hsz)) ?_
    rintro r nx ⟨a, tl, k3', k4', rfl, rfl, hL, hA⟩
    have sub : ∀ q ∈ R, q ∈ tl ++ R := fun q hq => List.mem_append.mpr (.inr hq)
    have hA0 : Above [(d, o), (l, o)] tl := aboveL (hA _ (.head _)) (aboveL (hA _ (.tail _ (.head _))) fun _ h => nomatch h)
    rw [List.push_toArray]
    exact .mk (.mk (S := ⟨S.ls ++ [_], _, _, _⟩) (sub _ a1) (LettersIn.snoc1 (a2.mono sub) (hL.mono fun q hq => List.mem_append.mpr (.inl hq))) (sub _ a3) (a4.mono sub) a5 (offApp (offAbove hA0 (.head _) rfl) a6) (offApp (offAbove hA0 (.tail _ (.head _)) rfl) a7)) hL hA
end

theorem fresh_m5 : True ∧ True := by
  w_top off
  first | (walk1; done) | exact ⟨trivial, trivial⟩
theorem fresh_m5_1 : True ∧ True := by
  w_top off
  first | (walk1; done) | exact ⟨trivial, trivial⟩
section
variable {prog : Program} {w : World} {p : Program} {loose : List Str} {mean : ExcName → Option Value} {mg mb : Str → Option Value} {t : Tok} {news : List (Addr × Obj)}
local macro_rules | `(tactic| walk_at "subscriptTail") => `(tactic| (refine hold_tree ?_))
theorem place_of_does {l : Addr} {vs : List Value} {n : Nat} {ls : List LT} {u : Int} {k : Tok} (hm : (l, W.listOf vs.toArray n) ∈ news) (hL : LettersIn w.params news vs ls) (hs : ls.Pairwise (fun a b => a.uid < b.uid)) (hz : ls.length ≤ 1000) :
    Does prog w p loose mean mg mb 4 169 [.ref l, .int u k] news
      (fun r news' => ∃ i tk, r = .int i tk ∧ news' = news ∧ ((i = -1 ∧ ∀ x ∈ ls, x.uid ≠ u) ∨ ∃ (j : Nat) (x : LT), i = (j : Int) ∧ ls[j]? = some x ∧ x.uid = u)) := by
  unfold Does
  intro dp un gd cn cs a ccd cl outer A₀ base h₀ L m s Q E B F X N T hk hdp hun hret
  have hlen : vs.length = ls.length := hL.length
  have hvz : vs.length ≤ 1000 := by omega
  refine wpAny_call ?_
  k_dflt ktr_enter
  k_steps
  rename_i F0 N0
  unfold Hold
  refine ksw_while (σ := Int × Tok × Int × Tok) (fun _ => news) (fun c => [(Str.ofString "low", .int c.1 c.2.1), (Str.ofString "high", .int c.2.2.1 c.2.2.2)]) (fun _ => True) [Str.ofString "middle"]
    (fun c => 0 ≤ c.1 ∧ c.1 ≤ c.2.2.1 ∧ c.2.2.1 ≤ (ls.length : Int) ∧ (∀ (j : Nat) (x : LT), ls[j]? = some x → (j : Int) < c.1 → x.uid < u) ∧ (∀ (j : Nat) (x : LT), ls[j]? = some x → c.2.2.1 ≤ (j : Int) → u ≤ x.uid))
    (fun c => (c.2.2.1 - c.1).toNat) (0, _, (vs.length : Int), _) F0 (cb_drop N0 fun _ h => .tail _ h) trivial (by kst_all) ?_ ?_
  · refine ⟨by simp, by simp, by simp [hlen], fun j x _ h => ?_, fun j x hj h => ?_⟩
    · simp only at h; omega
    · have := (List.getElem?_eq_some_iff.mp hj).1
      simp only at h; omega
  · rintro ⟨lo, tl, hi, th⟩ u' h tk _ ⟨p1, p2, p3, p4, p5⟩ F1 N1
    dsimp only [kstB] at F1 p1 p2 p3 p4 p5
    k_steps
    · unfold Hold
      have e : (lo + hi).fdiv 2 = (lo + hi) / 2 := Int.fdiv_eq_ediv_of_nonneg _ (by decide)
      obtain ⟨M, hM⟩ : ∃ M : Nat, (lo + hi).fdiv 2 = (M : Int) := ⟨((lo + hi) / 2).toNat, by rw [e]; omega⟩
      have hM1 : lo ≤ (M : Int) := by rw [← hM, e]; omega
      have hM2 : (M : Int) < hi := by rw [← hM, e]; omega
      have hMl : M < ls.length := by omega
      rw [hM]
      obtain ⟨v, hv, hLv⟩ := hL.get (List.getElem?_eq_getElem hMl)
      refine item_litK (v := v) (News.isList (by assumption) hm) (by omega) (by omega) (by simpa using hv) ?_
      have hx := List.getElem?_eq_getElem hMl
      generalize ls[M] = x at hLv hx
      replace p4 := Hold.mk p4
      replace p5 := Hold.mk p5
      replace hM := Hold.mk hM
      replace e := Hold.mk e
      replace hx := Hold.mk hx
      replace hv := Hold.mk hv
      replace hM1 := Hold.mk hM1
      replace hM2 := Hold.mk hM2
      replace hMl := Hold.mk hMl
      cases hLv with
      | mk q1 q2 q3 q4 q5 =>
        k_steps
        · rename_i hlt h' F' N'
          have p4 := p4.out
          have p5 := p5.out
          have hx := hx.out
          have hM1 := hM1.out
          have hM2 := hM2.out
          have hMl := hMl.out
          have hM := hM.out
          refine Hold.mk (ksw_end (((lo + hi).fdiv 2 + 1, _, hi, th)) F' N' (fun _ h => h) trivial (by kst_all) (by ksw_same) ⟨?_, ?_, p3, ?_, p5⟩ ?_)
          · show (0 : Int) ≤ (lo + hi).fdiv 2 + 1; omega
          · show (lo + hi).fdiv 2 + 1 ≤ hi; omega
          · intro j x hj h
            simp only at h
            rcases Nat.lt_or_ge j M with h1 | h1
            · have := asc hs hj hx h1
              simp only at this; omega
            · obtain rfl : j = M := by omega
              rw [hx] at hj
              obtain rfl := Option.some.inj hj
              exact hlt
          · show (hi - ((lo + hi).fdiv 2 + 1)).toNat < (hi - lo).toNat; omega
        · rename_i hlt h' F' N'
          have p4 := p4.out
          have p5 := p5.out
          have hx := hx.out
          have hM1 := hM1.out
          have hM2 := hM2.out
          have hMl := hMl.out
          have hM := hM.out
          refine Hold.mk (ksw_end ((lo, tl, (lo + hi).fdiv 2, _)) F' N' (fun _ h => h) trivial (by kst_all) (by ksw_same) ⟨p1, ?_, ?_, p4, ?_⟩ ?_)
          · show lo ≤ (lo + hi).fdiv 2; omega
          · show (lo + hi).fdiv 2 ≤ (ls.length : Int); omega
          · intro j x hj h
            simp only at h
            rcases Nat.lt_or_ge M j with h1 | h1
            · have := asc hs hx hj h1
              simp only at this; omega
            · obtain rfl : j = M := by omega
              rw [hx] at hj
              obtain rfl := Option.some.inj hj
              exact Int.not_lt.mp hlt
          · show ((lo + hi).fdiv 2 - lo).toNat < (hi - lo).toNat; omega
    · obtain ⟨M, rfl⟩ : ∃ M : Nat, lo = (M : Int) := ⟨lo.toNat, by omega⟩
      have hMl : M < ls.length := by omega
      obtain ⟨v, hv, hLv⟩ := hL.get (List.getElem?_eq_getElem hMl)
      unfold Hold
      refine item_litK (v := v) (News.isList (by assumption) hm) (by omega) (by omega) (by simpa using hv) ?_
      have hx := Hold.mk (List.getElem?_eq_getElem hMl)
      replace p4 := Hold.mk p4
      replace p5 := Hold.mk p5
      generalize ls[M] = x at hLv hx
      cases hLv with
      | mk q1 q2 q3 q4 q5 =>
        k_steps
        · rename_i heq _ _ _ _
          exact hret _ _ _ _ (by assumption) (by assumption) ⟨_, _, rfl, rfl, .inr ⟨M, _, rfl, hx.out, heq⟩⟩
        · rename_i hne _ _ _ _
          refine hret _ _ _ _ (by assumption) (by assumption) ⟨_, _, rfl, rfl, .inl ⟨rfl, ?_⟩⟩
          intro y hy
          obtain ⟨j, hj, rfl⟩ := List.getElem_of_mem hy
          have hy' := List.getElem?_eq_getElem hj
          have hx := hx.out
          have p4 := p4.out
          have p5 := p5.out
          have h5 : u ≤ _ := p5 M _ hx (by omega)
          rcases Nat.lt_trichotomy j M with h1 | h1 | h1
          · have := p4 j _ hy' (by omega)
            omega
          · subst h1
            rw [hx] at hy'
            rw [← Option.some.inj hy']
            exact hne
          · have := asc hs hx hy' h1
            omega
    · refine hret _ _ _ _ (by assumption) (by assumption) ⟨_, _, rfl, rfl, .inl ⟨rfl, ?_⟩⟩
      intro y hy
      obtain ⟨j, hj, rfl⟩ := List.getElem_of_mem hy
      have := p4 j _ (List.getElem?_eq_getElem hj) (by omega)
      omega
end

theorem fresh_m6 : True ∧ True := by
  w_top off
  first | (walk1; done) | exact ⟨trivial, trivial⟩
theorem fresh_m6_1 : True ∧ True := by
  w_top off
  first | (walk1; done) | exact ⟨trivial, trivial⟩
section
variable {prog : Program} {w : World} {p : Program} {loose : List Str} {mean : ExcName → Option Value} {mg mb : Str → Option Value} {t : Tok} {news : List (Addr × Obj)}
theorem toNat_at {vs : List Value} {j : Nat} {v : Value} (h : vs[j]? = some v) : vs[Int.toNat (j : Int)]? = some v := by simpa using h
local macro_rules | `(tactic| walk_at "call ref") => `(tactic| (k_here; (with_reducible show wpAny _ _ (call (Value.ref 169) _) _ _ _); k_dflt (refine' does_use ?k1 ?k2 ?k3 ?k4 ?k5 ?k6 (place_of_does ?m1 ?m2 ?m3 ?m4) ?k7 ?k8 ?_; (case k1 => k_asm); (case k2 => k_asm); (case k3 => k_asm); (case k4 => k_asm); (case k5 => k_asm); (case k6 => first | exact rfl | assumption); (case m1 => k_mem); (case m2 => assumption); (case m3 => assumption); (case m4 => assumption); (case k7 => ktr_room); (case k8 => ktr_units)); intro r' news' h' tk' F' N' hp'; obtain ⟨i', u', hr', hn', hp'⟩ := hp'; subst hr' hn'; rcases hp' with ⟨hi', hp'⟩ | ⟨j', x', hi', hx', hu'⟩; subst hi'; replace hp' := Hold.mk hp'; rotate_left; (obtain ⟨v', hv', hl'⟩ := LettersIn.get (by assumption) hx'); subst hi'; replace hv' := And.intro (Hold.mk (toNat_at hv')) (Hold.mk hv'); (have hj' := (List.getElem?_eq_some_iff.mp hx').1); replace hx' := Hold.mk hx'))
local macro_rules | `(tactic| walk_at "subscriptTail") => `(tactic| (k_here; (with_reducible show wpAny _ _ (subscriptTail _ _ (Value.ref _) (Value.int _ _)) _ _ _); k_dflt (refine' item_litK ?l ?a ?b ?c ?_; (case l => exact News.isList (by k_asm) (by k_mem)); (case a => omega); (case b => omega); (case c => exact Hold.out (And.left (by assumption))); k_whole)))
theorem letter_does {b d l : Addr} {t1 t2 t3 t4 t5 t6 t7 : Tok} {nm va nu top f0 gn : Value} {vs : List Value} {n : Nat} {ls : List LT} {u : Int} {k : Tok}
    (hb : (b, instObj 158 d) ∈ news) (hd : (d, boxD w.params t1 t2 t3 t4 t5 t6 t7 nm va nu top f0 (.ref l) gn) ∈ news) (hm : (l, W.listOf vs.toArray n) ∈ news) (hL : LettersIn w.params news vs ls) (hs : ls.Pairwise (fun a b => a.uid < b.uid)) (hz : ls.length ≤ 1000) :
    Does prog w p loose mean mg mb 6 145 [.ref b, .int u k] news
      (fun r news' => news' = news ∧ ((r = .none ∧ ∀ x ∈ ls, x.uid ≠ u) ∨ ∃ (j : Nat) (x : LT), ls[j]? = some x ∧ x.uid = u ∧ vs[j]? = some r)) := by
  unfold Does
  intro dp un gd cn cs a ccd cl outer A₀ base h₀ L m s Q E B F X N T hk hdp hun hret
  refine wpAny_call ?_
  k_dflt ktr_enter
  k_steps
  · rename (Hold _ ∧ Hold _) => hv
    exact hret _ _ _ _ (by assumption) (by assumption) ⟨rfl, .inr ⟨_, _, Hold.out (by assumption), by assumption, Hold.out hv.2⟩⟩
  · exact hret _ _ _ _ (by assumption) (by assumption) ⟨rfl, .inl ⟨rfl, Hold.out (by assumption)⟩⟩
end

theorem fresh_m7 : True ∧ True := by
  w_top off
  first | (walk1; done) | exact ⟨trivial, trivial⟩
theorem fresh_m7_1 : True ∧ True := by
  w_top off
  first | (walk1; done) | exact ⟨trivial, trivial⟩
section
variable {prog : Program} {w : World} {p : Program} {loose : List Str} {mean : ExcName → Option Value} {mg mb : Str → Option Value} {t : Tok} {news : List (Addr × Obj)}
local macro_rules | `(tactic| walk_at "call ref") => `(tactic| (k_here; (with_reducible show wpAny _ _ (call (Value.ref 183) _) _ _ _); refine hold_tree ?_))
local macro_rules | `(tactic| walk_at "call ref") => `(tactic| (k_here; (with_reducible show wpAny _ _ (call (Value.ref 145) _) _ _ _); k_dflt (refine' does_use ?k1 ?k2 ?k3 ?k4 ?k5 ?k6 (letter_does ?m1 ?m2 ?m3 ?m4 ?m5 ?m6) ?k7 ?k8 ?_; (case k1 => k_asm); (case k2 => k_asm); (case k3 => k_asm); (case k4 => k_asm); (case k5 => k_asm); (case k6 => first | exact rfl | assumption); (case m1 => k_mem); (case m2 => k_mem); (case m3 => k_mem); (case m4 => (refine LettersIn.mono (fun p hp => ?_) (by assumption); (repeat (first | exact hp | refine List.Mem.tail _ ?_)))); (case m5 => assumption); (case m6 => omega); (case k7 => ktr_room); (case k8 => ktr_units)); intro r' news' h' tk' F' N' hp'; obtain ⟨hn', hp'⟩ := hp'; subst hn'; replace hp' := Hold.mk hp'))
local macro_rules | `(tactic| walk_at "call builtin:sorted") => `(tactic| (refine hold_tree ?_))

theorem copy_letters_does {b ul g d l ds lsrc : Addr} {t1 t2 t3 t4 t5 t6 t7 r1 r2 r3 r4 r5 r6 r7 k3 k4 : Tok} {nm va f0 gn nm2 va2 nu2 top2 f2 gn2 : Value} {nu top : Int} {its uvs svs : List Value} {n un sn : Nat} {us : List Int} {src : List LT} {rest : List (Addr × Obj)}
    (hg : (g, instObj 158 d) ∈ rest) (hb : (b, instObj 158 ds) ∈ rest) (hdl : @Ne Nat d l) (hd : Off d rest) (hl : Off l rest) (hul : (ul, W.listOf uvs.toArray un) ∈ rest) (hus : IntsAre uvs us) (hu64 : us.length < 64)
    (hds : (ds, boxD w.params r1 r2 r3 r4 r5 r6 r7 nm2 va2 nu2 top2 f2 (.ref lsrc) gn2) ∈ (d, boxD w.params t1 t2 t3 t4 t5 t6 t7 nm va (.int nu k3) (.int top k4) f0 (.ref l) gn) :: (l, W.listOf its.toArray n) :: rest)
    (hls : (lsrc, W.listOf svs.toArray sn) ∈ (d, boxD w.params t1 t2 t3 t4 t5 t6 t7 nm va (.int nu k3) (.int top k4) f0 (.ref l) gn) :: (l, W.listOf its.toArray n) :: rest)
    (hLs : LettersIn w.params rest svs src) (hpw : src.Pairwise (fun a b => a.uid < b.uid)) (hsz : src.length ≤ 500) (hits : its.length ≤ 500) :
    Does prog w p loose mean mg mb 16 193 [.ref b, .ref ul, .ref g] ((d, boxD w.params t1 t2 t3 t4 t5 t6 t7 nm va (.int nu k3) (.int top k4) f0 (.ref l) gn) :: (l, W.listOf its.toArray n) :: rest)
      (fun r news' => ∃ (us' : List Int) (D : Addr) (pv : List Value) (pn : Nat) (tl : List (Addr × Obj)) (newv : List Value) (k3' k4' : Tok) (n' : Nat), us'.Perm us ∧ us'.Pairwise (· ≤ ·) ∧ r = .ref D ∧
        news' = (d, boxD w.params t1 t2 t3 t4 t5 t6 t7 nm va (.int (nu + (us'.filterMap (pick src)).length) k3') (.int (top + (us'.filterMap (pick src)).length) k4') f0 (.ref l) gn) :: (l, W.listOf (its ++ newv).toArray n') :: (tl ++ rest) ∧
        (D, W.listOf pv.toArray pn) ∈ tl ∧ DatAll tl pv (pairsD nu (us'.filterMap (pick src))) ∧ LettersIn w.params tl newv (made nu top (us'.filterMap (pick src))) ∧
        Above ((d, boxD w.params t1 t2 t3 t4 t5 t6 t7 nm va (.int nu k3) (.int top k4) f0 (.ref l) gn) :: (l, W.listOf its.toArray n) :: rest) tl) := by
  unfold Does
  intro dp un' gd cn cs a ccd cl outer A₀ base h₀ L m s Q E B F X N T hk hdp hun hret
  refine wpAny_call ?_
  k_dflt (refine' code_defC ?k1 ?k2 ?k3 ?k4 ?k5 ?kA ?kF ?kK ?k6 ?k7 ?k8 ?k9 ?kB ?kD ?_ ?c2 ?c3 ?c4; (case kA => exact rfl); (case kF => exact rfl); (case kK => assumption); (case k1 => k_asm); (case k2 => k_asm); (case k3 => k_asm); (case k4 => k_asm); (case k5 => k_asm); (case k6 => k_is); (case k7 => k_is); (case k8 => ktr_room); (case k9 => exact BindsTo.of_eq rfl); (case kB => exact rfl); (case kD => decide +kernel); (case c2 => exact rfl); (case c3 => exact rfl); (case c4 => exact rfl))
  intro g' L' h' tk' cells FG F' N' Y B' X' T' l1
  obtain ⟨o1, hE, d1⟩ := CellsAre.one Y
  subst hE
  clear Y
  k_lt l1
  simp only [List.cons_append, List.nil_append] at N'
  (try dsimp only)
  (try k_fold)
  k_steps
  rename_i Dp _ lp _ F1 N1
  refine kso_sorted F1 N1 (News.isList N1 (by k_mem)) hus hu64 fun Ds vs' us' c h2 F2 N2 l2 hi2 he2 hp2 ho2 _ => ?_
  k_lt l2
  k_steps
  have hvl : vs'.length = us'.length := hi2.length
  refine compL0 (fun i ys => All2 (fun y u => OptIn w.params rest y (pick src u)) ys us' i) (by rfl) F2 N2 (List.Mem.head _) (by omega) All2.nil ?_ ?_
  · rintro i v ys I oI C oC D m₂ gg h tk E' hi hv hys hC hx F3 N3 off ne
    obtain ⟨u, t, rfl, hu⟩ := intAt hi2 hv
    replace hys := Hold.mk hys
    k_steps
    rename_i r' h' tk' F' N' hp'
    refine compEnd0 (J' := fun y => All2 (fun y u => OptIn w.params rest y (pick src u)) (ys ++ [y]) us' (i + 1)) F' N' (fun _ h => h) off (List.Mem.head _) (All2.snoc hys.out hu ?_)
    rcases hp'.out with ⟨rfl, hn⟩ | ⟨j, x, hj, hu', hr⟩
    · rw [pick_none hn]; exact .none
    · rw [pick_some hpw hj hu']
      obtain ⟨x', hx', hL'⟩ := hLs.at hr
      rw [hj] at hx'
      exact .some (Option.some.inj hx' ▸ hL')
  · intro gg ys hys Dv h3 tk3 F3 N3 off3
    have hy1 : ys.length = us'.length := by rw [hys.1, hvl]
    have hd1 : @LT.lt Nat _ d Dp ∧ @LT.lt Nat _ l Dp := ⟨lp.2.1, lp.2.2.1⟩
    simp only [LCg.Off1, and_true] at off3
    have hlc : @LT.lt Nat _ d (L' + 1) ∧ @LT.lt Nat _ l (L' + 1) := ⟨Nat.lt_succ_of_lt l1.1, Nat.lt_succ_of_lt l1.2.1⟩
    obtain ⟨R1, hR1⟩ : ∃ R1, R1 = (Dv, LCg.lst ys) :: (Ds, W.listOf vs'.toArray c) :: (L' + 1, o1) :: rest := ⟨_, rfl⟩
    have hR1d : Off d R1 := by
      subst hR1; intro q hq
      simp only [List.mem_cons] at hq
      rcases hq with rfl | rfl | rfl | hq
      · exact fun e => off3.2.2.2.1 e.symm
      · exact Nat.ne_of_gt l2.2.2.1
      · exact Nat.ne_of_gt hlc.1
      · exact hd q hq
    have hR1l : Off l R1 := by
      subst hR1; intro q hq
      simp only [List.mem_cons] at hq
      rcases hq with rfl | rfl | rfl | hq
      · exact fun e => off3.2.2.2.2.1 e.symm
      · exact Nat.ne_of_gt l2.2.2.2.1
      · exact Nat.ne_of_gt hlc.2
      · exact hl q hq
    have hR1p : Off Dp R1 := by
      subst hR1; intro q hq
      simp only [List.mem_cons] at hq
      rcases hq with rfl | rfl | rfl | hq
      · exact fun e => off3.2.1 e.symm
      · exact Nat.ne_of_gt l2.1
      · exact Nat.ne_of_lt lp.1
      · exact Nat.ne_of_lt (ktn_ltOf lp.2.2.2 q hq)
    have hR1r : ∀ q ∈ rest, q ∈ R1 := by subst hR1; exact fun q hq => .tail _ (.tail _ (.tail _ hq))
    have hvm : (Dv, W.listOf ys.toArray ys.length) ∈ R1 := by subst hR1; exact .head _
    have N4 : News g' L' h3 ((d, boxD w.params t1 t2 t3 t4 t5 t6 t7 nm va (.int nu k3) (.int top k4) f0 (.ref l) gn) :: (l, W.listOf its.toArray n) :: (Dp, W.listOf ([] : List Value).toArray 0) :: R1) := by
      subst hR1
      refine cb_drop N3 fun q hq => ?_
      simp only [List.mem_cons] at hq ⊢
      rcases hq with h | h | h | h | h | h | h <;> simp [h]
    clear N3 off3
    refine loopU [Str.ofString "made"] (fun i nx => ∃ (tl : List (Addr × Obj)) (newv : List Value) (k3' k4' : Tok) (n' : Nat) (pv : List Value) (pn : Nat),
      nx = (d, boxD w.params t1 t2 t3 t4 t5 t6 t7 nm va (.int (nu + ((us'.take i).filterMap (pick src)).length) k3') (.int (top + ((us'.take i).filterMap (pick src)).length) k4') f0 (.ref l) gn) :: (l, W.listOf (its ++ newv).toArray n') :: (Dp, W.listOf pv.toArray pn) :: (tl ++ R1) ∧
      LettersIn w.params tl newv (made nu top ((us'.take i).filterMap (pick src))) ∧ DatAll tl pv (pairsD nu ((us'.take i).filterMap (pick src))) ∧ Above ((d, o1) :: (l, o1) :: (Dp, o1) :: R1) tl)
      (by rfl) (.tail _ (.tail _ (.tail _ hvm))) F3 N4 ⟨[], [], k3, k4, n, [], 0, by simp, .nil, .nil, fun _ _ _ h => nomatch h⟩ ?_ ?_
    · rintro i v u nx h tk own hv hoff hlm ⟨tl, newv, k3', k4', n', pv, pn, rfl, hLn, hDn, hAb⟩ F5 N5
      have hi : i < us'.length := by rw [← hy1]; exact (List.getElem?_eq_some_iff.mp hv).1
      have hu0 := List.getElem?_eq_getElem hi
      have hO := hys.2 i v _ hv hu0
      have hK := filterMap_take (ls := src) hu0
      generalize us'[i] = u0 at hu0 hO hK
      generalize hpk : pick src u0 = ox at hO hK
      have hKl : ((us'.take i).filterMap (pick src)).length ≤ i := pick_take_le
      generalize hKi : (us'.take i).filterMap (pick src) = Ki at *
      rw [List.cons_append, List.cons_append, List.cons_append] at N5
      replace hys := Hold.mk hys
      replace hoff := Hold.mk hoff
      replace hAb := Hold.mk hAb
      cases hO with
      | none =>
        k_steps
        have hK' : (us'.take (i + 1)).filterMap (pick src) = Ki := by rw [hK]; simp
        exact Hold.mk (turn_end _ F5 N5 sub3a sub3b hoff.out hlm ⟨tl, newv, k3', k4', n', pv, pn, by rw [hK'], by rw [hK']; exact hLn, by rw [hK']; exact hDn, hAb.out⟩ same_here)
      | some hLx =>
        cases hLx with
        | mk q1 q2 q3 q4 q5 =>
          have q1' := memL (a := tl) (c := own) (hR1r _ q1)
          have q2' := memL (a := tl) (c := own) (hR1r _ q2)
          have q3' := memL (a := tl) (c := own) (hR1r _ q3)
          have hdown : Off d own := offOwn hoff.out ⟨_, .head _, rfl⟩
          have hlown : Off l own := offOwn hoff.out ⟨_, .tail _ (.head _), rfl⟩
          have hpown : Off Dp own := offOwn hoff.out ⟨_, .tail _ (.tail _ (.head _)), rfl⟩
          have hdtl : Off d tl := offAbove hAb.out (.head _) rfl
          have hltl : Off l tl := offAbove hAb.out (.tail _ (.head _)) rfl
          have hptl : Off Dp tl := offAbove hAb.out (.tail _ (.tail _ (.head _))) rfl
          have hdT : Off d ((Dp, W.listOf pv.toArray pn) :: ((tl ++ R1) ++ own)) := by
            intro q hq
            rcases List.mem_cons.mp hq with rfl | hq
            · exact Nat.ne_of_gt hd1.1
            · exact offApp (offApp hdtl hR1d) hdown q hq
          have hlT : Off l ((Dp, W.listOf pv.toArray pn) :: ((tl ++ R1) ++ own)) := by
            intro q hq
            rcases List.mem_cons.mp hq with rfl | hq
            · exact Nat.ne_of_gt hd1.2
            · exact offApp (offApp hltl hR1l) hlown q hq
          have hits' : (its ++ newv).toArray.size ≤ 1000 := by
            have h1 := hLn.length
            have h2 := made_length Ki nu top
            rw [List.size_toArray, List.length_append]; omega
          k_steps
          refine Hold.mk ?_
          k_dflt (refine does_use (by k_asm) (by k_asm) (by k_asm) (by k_asm) (by k_asm) (by exact rfl) (add_letter_does (.tail _ (memL (hR1r _ hg))) hdl hdT hlT (.tail _ q3') (.inr ⟨_, rfl⟩) q4 q5 hits') (by ktr_room) (by ktr_units) ?_)
          rintro r' nx2 h6 tk6 F6 N6 ⟨am, tl2, k3n, k4n, rfl, rfl, hLt, hAb2⟩
          have N7 := cb_drop N6 permA
          clear N6 N5
          have hoDp : Off Dp (((tl2 ++ tl) ++ R1) ++ own) := offApp (offApp (offApp (offAbove hAb2 (.tail _ (.tail _ (.head _))) rfl) hptl) hR1p) hpown
          have hpz : pv.toArray.size ≤ sizeLine := by
            have h1 := hDn.length
            have h2 := pairsD_length Ki nu
            rw [List.size_toArray, sizeLine_eq]; omega
          have q1'' := memZ (x := tl2) (y := tl) (o := own) (hR1r _ q1)
          have q2'' := memZ (x := tl2) (y := tl) (o := own) (hR1r _ q2)
          have q3'' := memZ (x := tl2) (y := tl) (o := own) (hR1r _ q3)
          have hLt' := Hold.mk hLt
          replace hAb2 := Hold.mk hAb2
          cases hLt with
          | mk p1 p2 p3 p4 p5 =>
            have p1' := memX (y := tl) (z := R1) (o := own) p1
            have p2' := memX (y := tl) (z := R1) (o := own) p2
            have p3' := memX (y := tl) (z := R1) (o := own) p3
            k_steps
            rename_i Dt _ lDt _ F8 N8
            have e1 : ∀ z : Int, z + (((us'.take (i + 1)).filterMap (pick src)).length : Int) = z + (Ki.length : Int) + 1 := fun z => by
              rw [hK, List.length_append]; simp; omega
            have ea : (its ++ newv).toArray.push (Value.ref am) = (its ++ (newv ++ [Value.ref am])).toArray := by simp
            have ep : pv.toArray.push (Value.ref Dt) = (pv ++ [Value.ref Dt]).toArray := by simp
            refine Hold.mk (turn_end _ F8 N8 permC permD (offStep hoff.out lDt.2.2.2 hAb2.out) (.tail _ (.tail _ (.tail _ (List.mem_append.mpr (.inr hvm)))))
              ⟨(Dt, _) :: (tl2 ++ tl), newv ++ [.ref am], k3n, k4n, n' + 1, pv ++ [.ref Dt], pn + 1, by rw [e1, e1, ← ea, ← ep], ?_, ?_, aboveStep lDt.1 lDt.2.1 lDt.2.2.1 lDt.2.2.2 hAb2.out hAb.out⟩ (same_st (by rfl) same_here))
            · rw [hK, Option.toList_some, made_snoc]
              exact LettersIn.snoc1 (hLn.mono fun q hq => .tail _ (List.mem_append.mpr (.inr hq))) (hLt'.out.mono fun q hq => .tail _ (List.mem_append.mpr (.inl hq)))
            · rw [hK, Option.toList_some, pairsD_snoc]
              exact DatAll.snoc1 (hDn.mono fun q hq => .tail _ (List.mem_append.mpr (.inr hq))) (.tuple (.head _) (.cons (.int _ _) (.cons (.int _ _) .nil)))
    · rintro u nx h tk ⟨tl, newv, k3', k4', n', pv, pn, rfl, hLn, hDn, hAb⟩ F5 N5
      rw [hy1, List.take_length] at *
      replace hAb := Hold.mk hAb
      replace hys := Hold.mk hys
      k_steps
      rename_i kF kN _ _
      exact hret _ _ _ _ kF (cb_drop kN (permE hR1r)) ⟨us', Dp, pv, pn, (Dp, W.listOf pv.toArray pn) :: tl, newv, k3', k4', n', hp2, ho2, rfl, rfl, .head _, hDn.mono fun q hq => .tail _ hq, hLn.mono fun q hq => .tail _ hq,
        aboveLast hd1.1 hd1.2 lp.2.2.2 hAb.out hR1r⟩
end

theorem fresh_m8 : True ∧ True := by
  w_top off
  first | (walk1; done) | exact ⟨trivial, trivial⟩
section
variable {prog : Program} {w : World} {p : Program} {loose : List Str} {mean : ExcName → Option Value} {mg mb : Str → Option Value} {t : Tok} {news : List (Addr × Obj)}
theorem uids_does {b d l : Addr} {t1 t2 t3 t4 t5 t6 t7 : Tok} {nm va nu top f0 gn : Value} {vs : List Value} {n : Nat} {ls : List LT}
    (hb : (b, instObj 158 d) ∈ news) (hd : (d, boxD w.params t1 t2 t3 t4 t5 t6 t7 nm va nu top f0 (.ref l) gn) ∈ news) (hm : (l, W.listOf vs.toArray n) ∈ news) (hL : LettersIn w.params news vs ls) (hz : ls.length ≤ 1000) :
    Does prog w p loose mean mg mb 6 150 [.ref b] news
      (fun r news' => ∃ (D : Addr) (uv : List Value) (un : Nat), r = .ref D ∧ news' = (D, W.listOf uv.toArray un) :: news ∧ IntsAre uv (ls.map (·.uid)) ∧ LCg.Off1 D news) := by
  unfold Does
  intro dp un gd cn cs a ccd cl outer A₀ base h₀ L m s Q E B F X N T hk hdp hun hret
  have hlen : vs.length = ls.length := hL.length
  have hvz : vs.length ≤ 1000 := by omega
  refine wpAny_call ?_
  k_dflt ktr_enter
  k_steps
  refine compL0 (fun i ys => IntsAre ys ((ls.take i).map (·.uid))) (by rfl) (by k_asm) (by k_asm) hm hvz .nil ?_ ?_
  · intro i v ys I oI C oC D m₂ gg h tk E' hi hv hys hC hx F3 N3 off ne
    obtain ⟨x, hx', hLx⟩ := hL.at hv
    have hx2 := Hold.mk hx'
    clear hx'
    cases hLx with
    | mk q1 q2 q3 q4 q5 =>
      k_steps
      refine compEnd0 (J' := fun y => IntsAre (ys ++ [y]) ((ls.take (i + 1)).map (·.uid))) (by assumption) (by assumption) (fun _ h => h) off hm ?_
      rw [List.take_add_one, hx2.out, List.map_append]
      exact hys.append (.cons _ _ .nil)
  · intro gg ys hys D h3 tk3 F3 N3 off3
    rw [hlen, List.take_length] at hys
    k_steps
    exact hret _ _ _ _ (by assumption) (by assumption) ⟨D, ys, _, rfl, rfl, hys, off3⟩
end

theorem fresh_m9 : True ∧ True := by
  w_top off
  first | (walk1; done) | exact ⟨trivial, trivial⟩
section
open PyProof.Rows.LCg PyProof.Rows.LCt
theorem compEnd1 {h₀ : Heap} {L I C D D' ax : Addr} {m : Str → Option Value} {s₁ : Shared} {oI oC oD o' : Obj} {vs : List Value} {k : Nat} {R : Value → List (Addr × Obj) → Prop} {y : Value} {h' : Heap} {tk : Nat} {base tl : List (Addr × Obj)}
    (F : Fr h₀ L h' m) (N : News h₀ L h' ((D', o') :: (I, oI) :: (C, oC) :: (D, oD) :: (base ++ tl))) (lt : (@LT.lt Nat _ I D') ∧ (@LT.lt Nat _ C D') ∧ (@LT.lt Nat _ D D') ∧ AllLt D' (base ++ tl)) (off : Off3 I C D (base ++ tl)) (hm : (ax, W.listOf vs.toArray k) ∈ base) (hA : Above base tl) (r : R y ((D', o') :: tl)) :
    CompEnd h₀ L m s₁ I oI C oC D oD (SrcAt h₀ ax vs.toArray) (fun y nx' => ∃ tl', nx' = base ++ tl' ∧ Above base tl' ∧ R y tl') y { s₁ with heap := h', toks := tk } := by
  refine CompEnd.intro F N (base ++ ((D', o') :: tl)) ?_ (Off3.of ?_) (srcAt_of (List.mem_append.mpr (.inl hm))) ⟨_, rfl, ?_, r⟩
  · intro q hq
    simp only [List.mem_cons, List.mem_append] at hq ⊢
    rcases hq with h | h | h | h | h | h <;> simp [h]
  · intro q hq
    rcases List.mem_append.mp hq with h | h
    · exact Off3.mem off q (List.mem_append.mpr (.inl h))
    · rcases List.mem_cons.mp h with rfl | h
      · exact ⟨Nat.ne_of_gt lt.1, Nat.ne_of_gt lt.2.1, Nat.ne_of_gt lt.2.2.1⟩
      · exact Off3.mem off q (List.mem_append.mpr (.inr h))
  · intro q hq p hp
    rcases List.mem_cons.mp hp with rfl | hp
    · exact ktn_ltOf lt.2.2.2 q (List.mem_append.mpr (.inl hq))
    · exact hA q hq p hp
end
theorem map_take {α β : Type} {f : α → β} {l : List α} {i : Nat} {x : α} (h : l[i]? = some x) : (l.take (i + 1)).map f = (l.take i).map f ++ [f x] := by
  rw [List.take_add_one, h, List.map_append]; rfl
theorem off1Off {D : Addr} {l : List (Addr × Obj)} (h : LCg.Off1 D l) : Off D l := by
  induction l with
  | nil => exact fun _ h => nomatch h
  | cons a r ih => exact fun p hp => (List.mem_cons.mp hp).elim (fun e => e ▸ h.1) (ih h.2 p)
theorem fresh_m9_1 : True ∧ True := by
  w_top off
  first | (walk1; done) | exact ⟨trivial, trivial⟩
section
variable {prog : Program} {w : World} {p : Program} {loose : List Str} {mean : ExcName → Option Value} {mg mb : Str → Option Value} {t : Tok} {news : List (Addr × Obj)}
local macro_rules | `(tactic| walk_at "setItem ref int") => `(tactic| (k_here; k_dflt (refine' setW ?W ?z ?F ?N ?U ?_; (case W => assumption); (case z => assumption); (case F => k_asm); (case N => k_asm); (case U => k_updF)); intro h' o' F' N' hW'; (try dsimp only at N'); (try k_sweep)))
local macro_rules | `(tactic| walk_at "compareOp In int ref") => `(tactic| (k_here; k_dflt (refine' inW ?W ?N ?m ?l ?_; (case N => k_asm); (case W => assumption); (case m => k_mem); (case l => assumption))))
local macro_rules | `(tactic| walk_at "compareOp NotIn int ref") => `(tactic| (k_here; k_dflt (refine' notinW ?W ?N ?m ?l ?_; (case N => k_asm); (case W => assumption); (case m => k_mem); (case l => assumption))))
local macro_rules | `(tactic| walk_at "binaryOp Add ref ref") => `(tactic| (refine hold_tree ?_))
local macro_rules | `(tactic| walk_at "compareOp Eq ref ref") => `(tactic| (refine hold_tree ?_))
local macro_rules | `(tactic| walk_at "call ref") => `(tactic| (k_here; (with_reducible show wpAny _ _ (call (Value.ref 150) _) _ _ _); refine hold_tree ?_))

theorem expunge_does {b ul d l gl : Addr} {t1 t2 t3 t4 t5 t6 t7 k3 k4 : Tok} {nm va f0 : Value} {nu top : Int} {vs uvs gs : List Value} {n un gn : Nat} {us : List Int} {ls : List LT} {gd : List Dat} {rest core : List (Addr × Obj)} (hcore : ∀ q ∈ core, q ∈ rest)
    (hb : (b, instObj 158 d) ∈ rest) (hdl : @Ne Nat d l) (hd : Off d rest) (hl : Off l rest) (hul : (ul, W.listOf uvs.toArray un) ∈ rest) (hus : IntsAre uvs us) (hu64 : us.length ≤ 1000)
    (hL : LettersIn w.params core vs ls) (hz : ls.length ≤ 1000) (hg : (gl, W.listOf gs.toArray gn) ∈ core) (hgd : DatAll core gs gd) (hgz : gd.length ≤ 1000) :
    Does prog w p loose mean mg mb 16 188 [.ref b, .ref ul] ((d, boxD w.params t1 t2 t3 t4 t5 t6 t7 nm va (.int nu k3) (.int top k4) f0 (.ref l) (.ref gl)) :: (l, W.listOf vs.toArray n) :: rest)
      (fun _ news' => ∃ (l2 gl2 : Addr) (vs2 gs2 : List Value) (n2 gn2 : Nat) (k' : Tok) (tl : List (Addr × Obj)),
        news' = (d, boxD w.params t1 t2 t3 t4 t5 t6 t7 nm va (.int nu k3) (.int (top + if thereOf ls us = [] then 0 else 1) k') f0 (.ref l2) (.ref gl2)) :: (l2, W.listOf vs2.toArray n2) :: (tl ++ rest) ∧
        LettersIn w.params core vs2 (leftOf ls us) ∧ (gl2, W.listOf gs2.toArray gn2) ∈ tl ++ core ∧ DatAll (tl ++ core) gs2 (gd ++ (thereOf ls us).map fun u => .tuple [.int u, .int (top + 1)]) ∧
        Above ((d, boxD w.params t1 t2 t3 t4 t5 t6 t7 nm va (.int nu k3) (.int top k4) f0 (.ref l) (.ref gl)) :: (l, W.listOf vs.toArray n) :: rest) tl ∧
        (l2 = l ∨ (@Ne Nat d l2 ∧ @Ne Nat l l2 ∧ Off l2 rest)) ∧ Off l2 tl) := by
  replace hcore := hcore
  unfold Does
  intro dp un' gd' cn cs a ccd cl outer A₀ base h₀ L m s Q E B F X N T hk hdp hun hret
  refine wpAny_call ?_
  k_dflt (refine' code_defC ?k1 ?k2 ?k3 ?k4 ?k5 ?kA ?kF ?kK ?k6 ?k7 ?k8 ?k9 ?kB ?kD ?_ ?c2 ?c3 ?c4; (case kA => exact rfl); (case kF => exact rfl); (case kK => assumption); (case k1 => k_asm); (case k2 => k_asm); (case k3 => k_asm); (case k4 => k_asm); (case k5 => k_asm); (case k6 => k_is); (case k7 => k_is); (case k8 => ktr_room); (case k9 => exact BindsTo.of_eq rfl); (case kB => exact rfl); (case kD => decide +kernel); (case c2 => exact rfl); (case c3 => exact rfl); (case c4 => exact rfl))
  intro g' L' h' tk' cells FG F' N' Y B' X' T' l1
  obtain ⟨o1, o2, hE, d1, d2⟩ := CellsAre.two Y
  subst hE
  clear Y
  k_lt l1
  have hc1 : AllLt (L' + 1) rest := allLt_mono l1.2.2 (Nat.le_succ _)
  have hc2 : AllLt (L' + 1 + 1) rest := allLt_mono hc1 (Nat.le_succ _)
  simp only [List.cons_append, List.nil_append] at N'
  (try dsimp only)
  (try k_fold)
  k_steps
  rename_i Dw _ ow lo _ _ hi0 _ lw _ oc2 F1 N1 dc2
  have hulen : uvs.length = us.length := hus.length
  refine loopU [] (fun i nx => ∃ ow', nx = (Dw, ow') :: (L' + 1 + 1, o1) :: (L' + 1, oc2) :: (d, boxD w.params t1 t2 t3 t4 t5 t6 t7 nm va (.int nu k3) (.int top k4) f0 (.ref l) (.ref gl)) :: (l, W.listOf vs.toArray n) :: rest ∧ WantD prog w ow' (us.take i))
    (by rfl) (.tail _ (.tail _ (.tail _ (.tail _ (.tail _ hul))))) F1 N1 ⟨_, rfl, WantD.nil hi0⟩ ?_ ?_
  · rintro i v u nx h tk own hv hoff hlm ⟨ow', rfl, hW'⟩ F2 N2
    obtain ⟨x, t, rfl, hx⟩ := intAt hus hv
    simp only [List.cons_append] at N2
    have hz1 : (us.take i).length ≤ 1000 := by rw [List.length_take]; omega
    have ho1 : Off Dw (rest ++ own) := offApp (ltNe lw.2.2.2.2) (offOwn hoff ⟨_, .head _, rfl⟩)
    replace hoff := Hold.mk hoff
    k_steps
    rename_i ow3 F3 N3 hW3
    refine Hold.mk (turn_end _ F3 N3 permF permFr hoff.out (.tail _ (.tail _ (.tail _ (.tail _ (.tail _ hul))))) ⟨ow3, rfl, ?_⟩ same_here)
    rw [List.take_add_one, hx]
    exact hW3
  · rintro u nx h tk ⟨ow', rfl, hW'⟩ F2 N2
    rw [hulen, List.take_length] at hW'
    replace F2 : Fr g' L' h _ := F2
    replace N2 : News g' L' h _ := N2
    have hlv : vs.length = ls.length := hL.length
    k_steps
    refine Hold.mk ?_
    dsimp only [List.nil_append, List.cons_append]
    k_dflt (refine does_use (by k_asm) (by k_asm) (by k_asm) (by k_asm) (by k_asm) (by exact rfl) (uids_does (.tail _ (.tail _ (.tail _ (.tail _ (.tail _ hb))))) (.tail _ (.tail _ (.tail _ (.head _)))) (.tail _ (.tail _ (.tail _ (.tail _ (.head _))))) (hL.mono fun q hq => .tail _ (.tail _ (.tail _ (.tail _ (.tail _ (hcore q hq)))))) hz) (by ktr_room) (by ktr_units) ?_)
    rintro r' nx2 h6 tk6 F6 N6 ⟨Du, uv, unn, rfl, rfl, hui, hDu⟩
    have huv : uv.length = ls.length := by rw [hui.length, List.length_map]
    clear F2 N2 N1 F1
    refine compLT0 (fun i ys => IntsAre ys (((ls.map (·.uid)).take i).filter fun u => decide (u ∈ us))) (by rfl) F6 N6 (.head _) (by omega) .nil ?_ ?_
    · intro i v ys I oI C oC D m₂ gg h tk E' hi hv hys hC hx F7 N7 off ne
      obtain ⟨x, t, rfl, hxx⟩ := intAt hui hv
      k_steps
      · rename_i hxu
        refine Hold.mk (compEnd0 (J' := fun y => IntsAre (ys ++ [y]) (((ls.map (·.uid)).take (i + 1)).filter fun u => decide (u ∈ us))) F7 N7 (fun _ h => h) off (.head _) ?_)
        rw [filter_take hxx, if_pos (by simpa using hxu)]
        exact hys.append (.cons _ _ .nil)
      · rename_i hxu
        refine Hold.mk (compEnd0 (J' := fun _ => IntsAre ys (((ls.map (·.uid)).take (i + 1)).filter fun u => decide (u ∈ us))) F7 N7 (fun _ h => h) off (.head _) ?_)
        rw [filter_take hxx, if_neg (by simpa using hxu), List.append_nil]
        exact hys
    · intro gg ys hys Dt h7 tk7 F7 N7 off7
      rw [huv, ← List.length_map (f := LT.uid), List.take_length] at hys
      replace hys : IntsAre ys (thereOf ls us) := hys
      simp only [LCg.Off1] at off7 hDu
      have ⟨_, _, _, _, _, _, _⟩ := off7
      have ⟨_, _, _, _, _, _⟩ := hDu
      k_steps
      refine Hold.mk ?_
      refine eqI (by k_asm) (.tail _ (.head _)) (.head _) hys .nil (by ktr_units) ?_
      k_steps
      · rename (decide (thereOf ls us = []) = true) => he
        rename_i kF kN _ _
        have he := of_decide_eq_true he
        refine hret _ ((d, boxD w.params t1 t2 t3 t4 t5 t6 t7 nm va (.int nu k3) (.int top k4) f0 (.ref l) (.ref gl)) :: (l, W.listOf vs.toArray n) :: ([] ++ rest)) _ _ kF (cb_drop kN ?_)
          ⟨l, gl, vs, gs, n, gn, k4, [], by rw [if_pos he, Int.add_zero], by rw [left_all he]; exact hL, hg, by rw [he, List.map_nil, List.append_nil]; exact hgd, (fun _ _ _ h => nomatch h), .inl rfl, fun _ h => nomatch h⟩
        intro q hq
        simp only [List.nil_append, List.mem_cons] at hq ⊢
        rcases hq with h | h | h <;> simp [h]
      · rename_i _ _ _ _ _ _ oc1 F9 N9 dc1
        rename (decide (thereOf ls us = []) = false) => he
        have he : thereOf ls us ≠ [] := of_decide_eq_false he
        have N10 := cb_drop N9 permG
        clear N9
        refine compLT0 (fun i zs => LettersIn w.params core zs ((ls.take i).filter fun x => !decide (x.uid ∈ us))) (by rfl) F9 N10 (.tail _ (.tail _ (.tail _ (.tail _ (.tail _ (.head _)))))) (by omega) .nil ?_ ?_
        · intro i v zs I oI C oC D m₂ gg h tk E' hi hv hzs hC hx F7 N7 off ne
          obtain ⟨x, hx', hLx⟩ := hL.at hv
          replace hx' := Hold.mk hx'
          have hLx' := Hold.mk hLx
          cases hLx with
          | mk q1 q2 q3 q4 q5 =>
            replace q1 := hcore _ q1
            replace q2 := hcore _ q2
            replace q3 := hcore _ q3
            k_steps
            · rename_i hxu
              refine Hold.mk (compEnd0 (J' := fun _ => LettersIn w.params core zs ((ls.take (i + 1)).filter fun x => !decide (x.uid ∈ us))) F7 N7 (fun _ h => h) off (.tail _ (.tail _ (.tail _ (.tail _ (.tail _ (.head _)))))) ?_)
              rw [filter_take hx'.out, if_neg (by simpa using hxu), List.append_nil]
              exact hzs
            · rename_i hxu
              refine Hold.mk (compEnd0 (J' := fun y => LettersIn w.params core (zs ++ [y]) ((ls.take (i + 1)).filter fun x => !decide (x.uid ∈ us))) F7 N7 (fun _ h => h) off (.tail _ (.tail _ (.tail _ (.tail _ (.tail _ (.head _)))))) ?_)
              rw [filter_take hx'.out, if_pos (by simpa using hxu)]
              exact LettersIn.snoc1 hzs hLx'.out
        · intro gg zs hzs Dz h8 tk8 F8 N8 off8
          rw [hlv, List.take_length] at hzs
          replace hzs : LettersIn w.params core zs (leftOf ls us) := hzs
          simp only [LCg.Off1] at off8
          have ⟨_, _, _, _, _, _, _⟩ := off8
          k_steps
          rename_i F9 N9
          have hyl : ys.length ≤ 1000 := by
            rw [hys.length, thereOf]
            exact Nat.le_trans (List.length_filter_le _ _) (by rw [List.length_map]; exact hz)
          refine Hold.mk (compL1 (fun i ws tl => DatAll tl ws (((thereOf ls us).take i).map fun u => .tuple [.int u, .int (top + 1)])) (by rfl) F9 N9 (.tail _ (.head _)) hyl .nil ?_ ?_)
          · intro i v ws tl I oI C oC D m₂ g5 h tk E' hi hv hws hA hC hx F7 N7 off ne
            obtain ⟨x, t, rfl, hxx⟩ := intAt hys hv
            replace hws := Hold.mk hws
            replace hA := Hold.mk hA
            k_steps
            rename_i D2 _ F8 N8 l8
            refine Hold.mk (compEnd1 F8 N8 l8 off (.tail _ (.head _)) hA.out ?_)
            rw [map_take hxx]
            exact DatAll.snoc1 (hws.out.mono fun q hq => .tail _ hq) (.tuple (.head _) (.cons (.int _ _) (.cons (.int _ _) .nil)))
          · intro g6 ws tl hA hws Dp h9 tk9 F9 N9 off9
            rw [hys.length, List.take_length] at hws
            replace hA : Above ([_, _, _, _, _, _, _] ++ rest) tl := hA
            have hwl : ws.length ≤ 1000 := by rw [hws.length, List.length_map, ← hys.length]; exact hyl
            replace off9 := off1Off off9
            simp only [List.cons_append, List.nil_append] at N9 off9
            have hb2 : (b, instObj 158 d) ∈ rest ++ tl := List.mem_append.mpr (.inl hb)
            have hg2 : (gl, W.listOf gs.toArray gn) ∈ rest ++ tl := List.mem_append.mpr (.inl (hcore _ hg))
            have hdtl : Off d (rest ++ tl) := offApp hd (offAbove hA (.tail _ (.tail _ (.tail _ (.tail _ (.tail _ (.head _)))))) rfl)
            have hgs : gs.length ≤ 1000 := by rw [hgd.length]; exact hgz
            have hdp' : @Ne Nat d Dp := off9 _ (.tail _ (.tail _ (.tail _ (.tail _ (.tail _ (.head _))))))
            replace hws := Hold.mk hws
            replace hA := Hold.mk hA
            replace off9 := Hold.mk off9
            k_steps
            refine Hold.mk (addL (xs := gs) (ys := ws) F9 N9 (.tail _ (.tail _ (.tail _ (.tail _ (.tail _ (.tail _ (.tail _ (.tail _ hg2)))))))) (.head _) (by omega) ?_)
            intro Dg h10 F10 N10 l10
            simp only [AllLt] at l10
            clear N9 F9
            k_steps
            rename_i kF kN _ _
            obtain ⟨k', kN'⟩ : ∃ k', News h₀ L _ ((d, boxD w.params t1 t2 t3 t4 t5 t6 t7 nm va (.int nu k3) (.int (top + 1) k') f0 (.ref Dz) (.ref Dg)) :: (Dz, W.listOf zs.toArray zs.length) :: (((Dg, W.listOf (gs ++ ws).toArray 0) :: tl) ++ rest)) := by
              refine ⟨?k, cb_drop kN ?_⟩
              rotate_left
              · intro q hq
                simp only [List.cons_append, List.mem_cons, List.mem_append] at hq ⊢
                rcases hq with h | h | h | h | h
                · right; right; right; right; right; right; right; left; exact h
                · simp only [h]; right; right; left; trivial
                · left; exact h
                · simp [h]
                · simp [h]
            refine hret _ _ _ _ kF kN'
              ⟨Dz, Dg, zs, gs ++ ws, zs.length, 0, k', (Dg, W.listOf (gs ++ ws).toArray 0) :: tl, by rw [if_neg he], hzs, .head _, ?_, ?_, .inr ⟨off8.2.2.2.2.1, off8.2.2.2.2.2.1, off1Off off8.2.2.2.2.2.2⟩, ?_⟩
            · exact DatAll.append (hgd.mono fun q hq => List.mem_append.mpr (.inr hq)) (hws.out.mono fun q hq => List.mem_append.mpr (.inl (.tail _ hq)))
            · intro q hq p hp
              rcases List.mem_cons.mp hp with rfl | hp
              · have hl2 := l10.2.2.2.2.2.2
                simp only [List.mem_cons] at hq
                rcases hq with rfl | rfl | hq
                · exact hl2.1
                · exact hl2.2.1
                · exact ktn_ltOf hl2.2.2 q (List.mem_append.mpr (.inl hq))
              · simp only [List.mem_cons] at hq
                rcases hq with rfl | rfl | hq
                · exact hA.out _ (.tail _ (.tail _ (.tail _ (.tail _ (.tail _ (.head _)))))) p hp
                · exact hA.out _ (.tail _ (.tail _ (.tail _ (.tail _ (.tail _ (.tail _ (.head _))))))) p hp
                · exact hA.out _ (.tail _ (.tail _ (.tail _ (.tail _ (.tail _ (.tail _ (.tail _ hq))))))) p hp
            · intro q hq
              rcases List.mem_cons.mp hq with rfl | hq
              · exact Nat.ne_of_gt l10.2.1
              · exact offAbove hA.out (.head _) rfl q hq
end

theorem fresh_m10 : True ∧ True := by
  w_top off
  first | (walk1; done) | exact ⟨trivial, trivial⟩
structure FourNe (dA lA dB lB : Addr) : Prop where
  a : @Ne Nat dA dB
  b : @Ne Nat dA lB
  c : @Ne Nat lA dB
  d : @Ne Nat lA lB
inductive TwoAt (P : Params) (rest : List (Addr × Obj)) (bA bB : Addr) (SA SB : BS) : List (Addr × Obj) → Prop
  | mk {dA lA dB lB : Addr} {DA OA DB OB : Obj} : OneAt P rest bA SA dA lA DA OA → OneAt P rest bB SB dB lB DB OB → FourNe dA lA dB lB → TwoAt P rest bA bB SA SB ((dA, DA) :: (lA, OA) :: (dB, DB) :: (lB, OB) :: rest)
theorem swap4 {a b c e : Addr × Obj} {r : List (Addr × Obj)} : ∀ p ∈ c :: e :: a :: b :: r, p ∈ a :: b :: c :: e :: r := by
  intro p hp
  simp only [List.mem_cons] at hp ⊢
  rcases hp with h | h | h | h | h <;> simp [h]
theorem TwoAt.swap {P : Params} {rest news : List (Addr × Obj)} {bA bB : Addr} {SA SB : BS} (h : TwoAt P rest bA bB SA SB news) : ∃ news', TwoAt P rest bB bA SB SA news' ∧ (∀ p ∈ news', p ∈ news) ∧ ∀ p ∈ news, p ∈ news' := by
  cases h with
  | mk h1 h2 h3 => exact ⟨_, .mk h2 h1 ⟨h3.a.symm, h3.c.symm, h3.b.symm, h3.d.symm⟩, swap4, swap4⟩
inductive BoxAt (P : Params) (news : List (Addr × Obj)) (b : Addr) (S : BS) : Prop
  | mk {d l gl : Addr} {t1 t2 t3 t4 t5 t6 t7 k3 k4 : Tok} {nm va f0 : Value} {vs gs : List Value} {n gn : Nat} :
      (b, instObj 158 d) ∈ news → (d, boxD P t1 t2 t3 t4 t5 t6 t7 nm va (.int S.nu k3) (.int S.top k4) f0 (.ref l) (.ref gl)) ∈ news → (l, W.listOf vs.toArray n) ∈ news → LettersIn P news vs S.ls → (gl, W.listOf gs.toArray gn) ∈ news → DatAll news gs S.gd → BoxAt P news b S
theorem TwoAt.boxes {P : Params} {rest news : List (Addr × Obj)} {bA bB : Addr} {SA SB : BS} (h : TwoAt P rest bA bB SA SB news) : BoxAt P news bA SA ∧ BoxAt P news bB SB ∧ ∀ q ∈ rest, q ∈ news := by
  cases h with
  | mk h1 h2 _ =>
    cases h1 with
    | mk a1 a2 a3 a4 _ _ _ =>
      cases h2 with
      | mk b1 b2 b3 b4 _ _ _ =>
        have sub : ∀ {x y z u : Addr × Obj}, ∀ q ∈ rest, q ∈ x :: y :: z :: u :: rest := fun q hq => .tail _ (.tail _ (.tail _ (.tail _ hq)))
        exact ⟨.mk (sub _ a1) (.head _) (.tail _ (.head _)) (a2.mono sub) (sub _ a3) (a4.mono sub), .mk (sub _ b1) (.tail _ (.tail _ (.head _))) (.tail _ (.tail _ (.tail _ (.head _)))) (b2.mono sub) (sub _ b3) (b4.mono sub), sub⟩
theorem TwoAt.app {P : Params} {rest news xs : List (Addr × Obj)} {bA bB : Addr} {SA SB : BS} (h : TwoAt P rest bA bB SA SB news) (ho : ∀ p ∈ xs, Off p.1 news) :
    ∃ news', TwoAt P (xs ++ rest) bA bB SA SB news' ∧ (∀ p ∈ news', p ∈ xs ++ news) ∧ ∀ p ∈ xs ++ news, p ∈ news' := by
  cases h with
  | mk h1 h2 h3 =>
    refine ⟨_, .mk (h1.grow (tl := xs) ?_ ?_) (h2.grow (tl := xs) ?_ ?_) h3, ?_, ?_⟩
    · exact fun p hp => ((ho p hp) _ (.head _)).symm
    · exact fun p hp => ((ho p hp) _ (.tail _ (.head _))).symm
    · exact fun p hp => ((ho p hp) _ (.tail _ (.tail _ (.head _)))).symm
    · exact fun p hp => ((ho p hp) _ (.tail _ (.tail _ (.tail _ (.head _))))).symm
    · intro p hp
      simp only [List.mem_cons, List.mem_append] at hp ⊢
      rcases hp with h | h | h | h | h | h <;> simp [h]
    · intro p hp
      simp only [List.mem_cons, List.mem_append] at hp ⊢
      rcases hp with h | h | h | h | h | h <;> simp [h]
section
variable {prog : Program} {w : World} {p : Program} {loose : List Str} {mean : ExcName → Option Value} {mg mb : Str → Option Value} {t : Tok} {news : List (Addr × Obj)}
def CopyPost (P : Params) (bA bB : Addr) (SA SB : BS) (sm : Bool) (us : List Int) (rest : List (Addr × Obj)) (r : Value) (news' : List (Addr × Obj)) : Prop :=
  ∃ (us' : List Int) (D : Addr) (pv : List Value) (pn : Nat) (rest' : List (Addr × Obj)), us'.Perm us ∧ us'.Pairwise (· ≤ ·) ∧ r = .ref D ∧ (∀ q ∈ rest, q ∈ rest') ∧
    TwoAt P rest' bA bB (if sm then addK SA (us'.filterMap (pick SA.ls)) else SA) (if sm then SB else addK SB (us'.filterMap (pick SA.ls))) news' ∧
    (D, W.listOf pv.toArray pn) ∈ rest' ∧ DatAll rest' pv (pairsD (if sm then SA.nu else SB.nu) (us'.filterMap (pick SA.ls)))
theorem copy_two {bA bB ul : Addr} {SA SB : BS} {sm : Bool} {rest : List (Addr × Obj)} {uvs : List Value} {us : List Int} {un : Nat} (h : TwoAt w.params rest bA bB SA SB news) (hul : (ul, W.listOf uvs.toArray un) ∈ rest) (hus : IntsAre uvs us) (hu64 : us.length < 64)
    (hpw : SA.ls.Pairwise (fun a b => a.uid < b.uid)) (hz1 : SA.ls.length ≤ 500) (hz2 : SB.ls.length ≤ 500) :
    Does prog w p loose mean mg mb 16 193 [.ref bA, .ref ul, .ref (if sm then bA else bB)] news (CopyPost w.params bA bB SA SB sm us rest) := by
  cases h with
  | @mk dA lA dB lB DA OA DB OB h1 h2 h3 =>
    have h1c := h1
    have h2c := h2
    cases h1 with
    | @mk glA t1 t2 t3 t4 t5 t6 t7 k3 k4 nm va f0 vs gs n gn a1 a2 a3 a4 a5 a6 a7 =>
      cases h2 with
      | @mk glB r1 r2 r3 r4 r5 r6 r7 j3 j4 nm2 va2 f2 vs2 gs2 n2 gn2 b1 b2 b3 b4 b5 b6 b7 =>
        cases sm with
        | true =>
          have sub : ∀ {x y : Addr × Obj}, ∀ q ∈ rest, q ∈ x :: y :: rest := fun q hq => .tail _ (.tail _ hq)
          refine does_post (copy_letters_does (sub _ a1) (sub _ a1) a5 ?_ ?_ (sub _ hul) hus hu64 (.head _) (.tail _ (.head _)) (a2.mono sub) hpw hz1 (by rw [a2.length]; exact hz1)) ?_
          · exact fun q hq => by
              rcases List.mem_cons.mp hq with rfl | hq
              · exact h3.a.symm
              rcases List.mem_cons.mp hq with rfl | hq
              · exact h3.b.symm
              exact a6 q hq
          · exact fun q hq => by
              rcases List.mem_cons.mp hq with rfl | hq
              · exact h3.c.symm
              rcases List.mem_cons.mp hq with rfl | hq
              · exact h3.d.symm
              exact a7 q hq
          · rintro r nx ⟨us', D, pv, pn, tl, newv, k3', k4', n', hp, ho, rfl, rfl, hD, hda, hln, hab⟩
            have subr : ∀ q ∈ rest, q ∈ tl ++ rest := fun q hq => List.mem_append.mpr (.inr hq)
            have subl : ∀ q ∈ tl, q ∈ tl ++ rest := fun q hq => List.mem_append.mpr (.inl hq)
            have one : OneAt w.params (tl ++ rest) bA (addK SA (us'.filterMap (pick SA.ls))) dA lA (boxD w.params t1 t2 t3 t4 t5 t6 t7 nm va (.int (SA.nu + (us'.filterMap (pick SA.ls)).length) k3') (.int (SA.top + (us'.filterMap (pick SA.ls)).length) k4') f0 (.ref lA) (.ref glA)) (W.listOf (vs ++ newv).toArray n') :=
              .mk (S := addK SA _) (subr _ a1) (LettersIn.append (a2.mono subr) (hln.mono subl)) (subr _ a3) (a4.mono subr) a5 (offApp (offAbove hab (.head _) rfl) a6) (offApp (offAbove hab (.tail _ (.head _)) rfl) a7)
            refine ⟨_, ?_, us', D, pv, pn, tl ++ rest, hp, ho, rfl, subr, .mk one
              (h2c.grow (offAbove hab (.tail _ (.tail _ (.head _))) rfl) (offAbove hab (.tail _ (.tail _ (.tail _ (.head _)))) rfl)) h3, subl _ hD, hda.mono subl⟩
            intro q hq
            simp only [List.mem_cons, List.mem_append] at hq ⊢
            rcases hq with h | h | h | h | h | h <;> simp [h]
        | false =>
          have sub : ∀ {x y : Addr × Obj}, ∀ q ∈ rest, q ∈ x :: y :: rest := fun q hq => .tail _ (.tail _ hq)
          refine does_sub swap4 (does_post (copy_letters_does (sub _ b1) (sub _ a1) b5 ?_ ?_ (sub _ hul) hus hu64 (.tail _ (.tail _ (.head _))) (.tail _ (.tail _ (.tail _ (.head _)))) (a2.mono sub) hpw hz1 (by rw [b2.length]; exact hz2)) ?_)
          · exact fun q hq => by
              rcases List.mem_cons.mp hq with rfl | hq
              · exact h3.a
              rcases List.mem_cons.mp hq with rfl | hq
              · exact h3.c
              exact b6 q hq
          · exact fun q hq => by
              rcases List.mem_cons.mp hq with rfl | hq
              · exact h3.b
              rcases List.mem_cons.mp hq with rfl | hq
              · exact h3.d
              exact b7 q hq
          · rintro r nx ⟨us', D, pv, pn, tl, newv, k3', k4', n', hp, ho, rfl, rfl, hD, hda, hln, hab⟩
            have subr : ∀ q ∈ rest, q ∈ tl ++ rest := fun q hq => List.mem_append.mpr (.inr hq)
            have subl : ∀ q ∈ tl, q ∈ tl ++ rest := fun q hq => List.mem_append.mpr (.inl hq)
            have one : OneAt w.params (tl ++ rest) bB (addK SB (us'.filterMap (pick SA.ls))) dB lB (boxD w.params r1 r2 r3 r4 r5 r6 r7 nm2 va2 (.int (SB.nu + (us'.filterMap (pick SA.ls)).length) k3') (.int (SB.top + (us'.filterMap (pick SA.ls)).length) k4') f2 (.ref lB) (.ref glB)) (W.listOf (vs2 ++ newv).toArray n') :=
              .mk (S := addK SB _) (subr _ b1) (LettersIn.append (b2.mono subr) (hln.mono subl)) (subr _ b3) (b4.mono subr) b5 (offApp (offAbove hab (.head _) rfl) b6) (offApp (offAbove hab (.tail _ (.head _)) rfl) b7)
            refine ⟨_, ?_, us', D, pv, pn, tl ++ rest, hp, ho, rfl, subr, .mk
              (h1c.grow (offAbove hab (.tail _ (.tail _ (.head _))) rfl) (offAbove hab (.tail _ (.tail _ (.tail _ (.head _)))) rfl))
              one h3, subl _ hD, hda.mono subl⟩
            intro q hq
            simp only [List.mem_cons, List.mem_append] at hq ⊢
            rcases hq with h | h | h | h | h | h
            · simp [h]
            · simp [h]
            · left; exact h
            · right; left; exact h
            · simp [h]
            · simp [h]
def ExpPost (P : Params) (bA bB : Addr) (SA SB : BS) (us : List Int) (rest : List (Addr × Obj)) (_ : Value) (news' : List (Addr × Obj)) : Prop :=
  ∃ (rest' : List (Addr × Obj)), (∀ q ∈ rest, q ∈ rest') ∧ TwoAt P rest' bA bB (expS SA us) SB news'
theorem exp_two {bA bB ul : Addr} {SA SB : BS} {rest : List (Addr × Obj)} {uvs : List Value} {us : List Int} {un : Nat} (h : TwoAt w.params rest bA bB SA SB news) (hul : (ul, W.listOf uvs.toArray un) ∈ rest) (hus : IntsAre uvs us) (hu : us.length ≤ 1000)
    (hz1 : SA.ls.length ≤ 1000) (hz2 : SA.gd.length ≤ 1000) :
    Does prog w p loose mean mg mb 16 188 [.ref bA, .ref ul] news (ExpPost w.params bA bB SA SB us rest) := by
  cases h with
  | @mk dA lA dB lB DA OA DB OB h1 h2 h3 =>
    have h2c := h2
    cases h1 with
    | @mk glA t1 t2 t3 t4 t5 t6 t7 k3 k4 nm va f0 vs gs n gn a1 a2 a3 a4 a5 a6 a7 =>
      have sub : ∀ {x y : Addr × Obj}, ∀ q ∈ rest, q ∈ x :: y :: rest := fun q hq => .tail _ (.tail _ hq)
      refine does_post (expunge_does sub (sub _ a1) a5 ?_ ?_ (sub _ hul) hus hu a2 hz1 a3 a4 hz2) ?_
      · exact fun q hq => by
          rcases List.mem_cons.mp hq with rfl | hq
          · exact h3.a.symm
          rcases List.mem_cons.mp hq with rfl | hq
          · exact h3.b.symm
          exact a6 q hq
      · exact fun q hq => by
          rcases List.mem_cons.mp hq with rfl | hq
          · exact h3.c.symm
          rcases List.mem_cons.mp hq with rfl | hq
          · exact h3.d.symm
          exact a7 q hq
      · rintro r nx ⟨l2, gl2, vs2, gs2, n2, gn2, k', tl, rfl, hln, hg2, hd2, hab, hor, hl2⟩
        have subr : ∀ q ∈ rest, q ∈ tl ++ rest := fun q hq => List.mem_append.mpr (.inr hq)
        have subl : ∀ q ∈ tl, q ∈ tl ++ rest := fun q hq => List.mem_append.mpr (.inl hq)
        have hnews : ∃ d3 : Obj, d3 = boxD w.params t1 t2 t3 t4 t5 t6 t7 nm va (.int SA.nu k3) (.int (SA.top + if thereOf SA.ls us = [] then 0 else 1) k') f0 (.ref l2) (.ref gl2) := ⟨_, rfl⟩
        have hdl2 : @Ne Nat dA l2 ∧ Off l2 rest ∧ @Ne Nat l2 dB ∧ @Ne Nat l2 lB := by
          rcases hor with rfl | ⟨o1, o2, o3⟩
          · exact ⟨a5, a7, h3.c, h3.d⟩
          · exact ⟨o1, fun q hq => o3 q (sub q hq), (o3 _ (.head _)).symm, (o3 _ (.tail _ (.head _))).symm⟩
        have one : OneAt w.params (tl ++ rest) bA (expS SA us) dA l2 (boxD w.params t1 t2 t3 t4 t5 t6 t7 nm va (.int SA.nu k3) (.int (SA.top + if thereOf SA.ls us = [] then 0 else 1) k') f0 (.ref l2) (.ref gl2)) (W.listOf vs2.toArray n2) :=
          .mk (S := expS SA us) (subr _ a1) (hln.mono subr) hg2 hd2 hdl2.1 (offApp (offAbove hab (.head _) rfl) a6) (offApp hl2 hdl2.2.1)
        refine ⟨_, ?_, tl ++ rest, subr, .mk one (h2c.grow (offAbove hab (.tail _ (.tail _ (.head _))) rfl) (offAbove hab (.tail _ (.tail _ (.tail _ (.head _)))) rfl)) ⟨h3.a, h3.b, hdl2.2.2.1, hdl2.2.2.2⟩⟩
        intro q hq
        simp only [List.mem_cons, List.mem_append] at hq ⊢
        rcases hq with h | h | h | h | h | h <;> simp [h]
end

theorem fresh_m11 : True ∧ True := by
  w_top off
  first | (walk1; done) | exact ⟨trivial, trivial⟩
theorem fresh_m11_1 : True ∧ True := by
  w_top off
  first | (walk1; done) | exact ⟨trivial, trivial⟩
section
variable {prog : Program} {w : World} {p : Program} {loose : List Str} {mean : ExcName → Option Value} {mg mb : Str → Option Value} {t : Tok} {news : List (Addr × Obj)}
local macro_rules | `(tactic| walk_at "call ref") => `(tactic| (k_here; (with_reducible show wpAny _ _ (call (Value.ref 193) _) _ _ _); refine hold_tree ?_))
local macro_rules | `(tactic| walk_at "call ref") => `(tactic| (k_here; (with_reducible show wpAny _ _ (call (Value.ref 188) _) _ _ _); refine hold_tree ?_))
theorem pick_len_le {ls : List LT} {us : List Int} : (us.filterMap (pick ls)).length ≤ us.length := List.length_filterMap_le _ _
theorem pairAt {news : List (Addr × Obj)} : ∀ (K : List LT) {nu : Int} {i : Nat} {v : Value} {pv : List Value}, DatAll news pv (pairsD nu K) → pv[i]? = some v →
    ∃ (a : Addr) (n : Nat) (u c : Int) (t1 t2 : Tok) , v = .ref a ∧ (a, ({ cls := .type "tuple", data := .seq [Value.int u t1, Value.int c t2].toArray n } : Obj)) ∈ news ∧ (K.map (·.uid))[i]? = some u
  | [], _, i, v, pv, h, hv => by
    cases h
    simp at hv
  | x :: r, nu, i, v, pv, h, hv => by
    cases h with
    | cons h1 h2 =>
      cases i with
      | zero =>
        obtain rfl := Option.some.inj hv
        cases h1 with
        | tuple hm hr =>
          cases hr with
          | cons g1 hr =>
            cases hr with
            | cons g2 hr =>
              cases hr
              cases g1
              cases g2
              exact ⟨_, _, _, _, _, _, rfl, hm, rfl⟩
      | succ i => exact pairAt r h2 hv
def after (S : BS) (mv : Bool) (K : List LT) : BS := if mv then expS S (K.map (·.uid)) else S
def MovePost (P : Params) (bA bB : Addr) (SA SB : BS) (mv sm : Bool) (us : List Int) (rest : List (Addr × Obj)) (r : Value) (news' : List (Addr × Obj)) : Prop :=
  ∃ (us' : List Int) (D : Addr) (pv : List Value) (pn : Nat) (rest' : List (Addr × Obj)), us'.Perm us ∧ us'.Pairwise (· ≤ ·) ∧ r = .ref D ∧ (∀ q ∈ rest, q ∈ rest') ∧
    TwoAt P rest' bA bB (after (if sm then addK SA (us'.filterMap (pick SA.ls)) else SA) mv (us'.filterMap (pick SA.ls))) (if sm then SB else addK SB (us'.filterMap (pick SA.ls))) news' ∧
    (D, W.listOf pv.toArray pn) ∈ rest' ∧ DatAll rest' pv (pairsD (if sm then SA.nu else SB.nu) (us'.filterMap (pick SA.ls)))
theorem move_two {bA bB ul : Addr} {SA SB : BS} {sm : Bool} {rest : List (Addr × Obj)} {uvs : List Value} {us : List Int} {un : Nat} (h : TwoAt w.params rest bA bB SA SB news) (hul : (ul, W.listOf uvs.toArray un) ∈ rest) (hus : IntsAre uvs us) (hu64 : us.length < 64)
    (hpw : SA.ls.Pairwise (fun a b => a.uid < b.uid)) (hz1 : SA.ls.length ≤ 500) (hz2 : SB.ls.length ≤ 500) (hz3 : SA.gd.length ≤ 1000) :
    Does prog w p loose mean mg mb 22 198 [.ref bA, .ref ul, .ref (if sm then bA else bB)] news (MovePost w.params bA bB SA SB true sm us rest) := by
  unfold Does
  intro dp un' gd' cn cs a ccd cl outer A₀ base h₀ L m s Q E B F X N T hk hdp hun hret
  generalize hG : (if sm then bA else bB) = bG
  refine wpAny_call ?_
  k_dflt ktr_enter
  k_steps
  refine Hold.mk ?_
  subst hG
  k_dflt (refine does_use (by k_asm) (by k_asm) (by k_asm) (by k_asm) (by k_asm) (by exact rfl) (copy_two h hul hus hu64 hpw hz1 hz2) (by ktr_room) (by ktr_units) ?_)
  rintro r nx h6 tk6 F6 N6 ⟨us', D, pv, pn, rest', hp, ho, rfl, hsub, hT, hD, hda⟩
  have hDn := hT.boxes.2.2 _ hD
  have hKl := pick_len_le (ls := SA.ls) (us := us')
  have hul2 : us'.length = us.length := hp.length_eq
  generalize hK : us'.filterMap (pick SA.ls) = K at *
  have hpl : pv.length = K.length := by rw [hda.length, pairsD_length]
  have hdn := hda.mono hT.boxes.2.2
  replace hsub := Hold.mk hsub
  replace ho := Hold.mk ho
  replace hpw := Hold.mk hpw
  k_steps
  refine Hold.mk (compL0 (fun i ys => IntsAre ys ((K.map (·.uid)).take i)) (by rfl) (by k_asm) (by k_asm) hDn (by omega) .nil ?_ ?_)
  · intro i v ys I oI C oC D m₂ gg h tk E' hi hv hys hC hx F7 N7 off ne
    obtain ⟨a, n, u, c, t1, t2, rfl, hm, hu⟩ := pairAt K hdn hv
    replace hys := Hold.mk hys
    k_steps
    refine Hold.mk (compEnd0 (J' := fun y => IntsAre (ys ++ [y]) ((K.map (·.uid)).take (i + 1))) F7 N7 (fun _ h => h) off hDn ?_)
    rw [List.take_add_one, hu]
    exact hys.out.append (.cons _ _ .nil)
  · intro gg ys hys Du h7 tk7 F7 N7 off7
    have hoff := off1Off off7
    rw [hpl, ← List.length_map (f := LT.uid), List.take_length] at hys
    have hsz : ys.length ≤ 1000 := by rw [hys.length, List.length_map]; omega
    obtain ⟨news2, hT2, s1, s2⟩ := hT.app (xs := [(Du, LCg.lst ys)]) (fun q hq => by
      rw [List.mem_singleton] at hq; subst hq
      exact fun z hz => hoff z hz)
    have hA1 : (if sm = true then addK SA K else SA).ls.length ≤ 1000 := by
      cases sm
      · exact Nat.le_trans hz1 (by omega)
      · show (SA.ls ++ made SA.nu SA.top K).length ≤ 1000
        rw [List.length_append, made_length]; omega
    have hA2 : (if sm = true then addK SA K else SA).gd.length ≤ 1000 := by cases sm <;> exact hz3
    replace hys := Hold.mk hys
    replace hoff := Hold.mk hoff
    replace s1 := Hold.mk s1
    replace s2 := Hold.mk s2
    k_steps
    refine Hold.mk ?_
    k_dflt (refine does_use (by k_asm) (by k_asm) (by k_asm) (by k_asm) (by k_asm) (by exact rfl) (does_sub s1.out (exp_two hT2 (.head _) hys.out (by rw [← hys.out.length]; exact hsz) hA1 hA2)) (by ktr_room) (by ktr_units) ?_)
    rintro r nx3 h8 tk8 F8 N8 ⟨rest3, hs3, hT3⟩
    replace hs3 := Hold.mk hs3
    k_steps
    rename_i kF kN _ _
    have up : ∀ q ∈ rest', q ∈ rest3 := fun q hq => hs3.out q (.tail _ hq)
    exact hret _ _ _ _ kF kN ⟨us', D, pv, pn, rest3, hp, ho.out, rfl, fun q hq => up q (hsub.out q hq), by rw [hK]; exact hT3, up _ hD, by rw [hK]; exact hda.mono up⟩
theorem copy_two' {bA bB ul : Addr} {SA SB : BS} {sm : Bool} {rest : List (Addr × Obj)} {uvs : List Value} {us : List Int} {un : Nat} (h : TwoAt w.params rest bA bB SA SB news) (hul : (ul, W.listOf uvs.toArray un) ∈ rest) (hus : IntsAre uvs us) (hu64 : us.length < 64)
    (hpw : SA.ls.Pairwise (fun a b => a.uid < b.uid)) (hz1 : SA.ls.length ≤ 500) (hz2 : SB.ls.length ≤ 500) :
    Does prog w p loose mean mg mb 16 193 [.ref bA, .ref ul, .ref (if sm then bA else bB)] news (MovePost w.params bA bB SA SB false sm us rest) :=
  copy_two h hul hus hu64 hpw hz1 hz2
end

theorem fresh_m12 : True ∧ True := by
  w_top off
  first | (walk1; done) | exact ⟨trivial, trivial⟩
section
variable {prog : Program} {w : World} {p : Program} {loose : List Str} {mean : ExcName → Option Value} {mg mb : Str → Option Value} {t : Tok} {news : List (Addr × Obj)}
def rowD (x : LT) : Dat := .tuple [.int x.uid, .bytes x.oct, .tuple (x.fl.map .str), .int x.inst]
def plainD (ls : List LT) : List Dat := ls.map rowD
theorem strsDat {news : List (Addr × Obj)} {vs : List Value} {fl : List Str} (h : StrsAre vs fl) : DatAll news vs (fl.map .str) := by
  induction h with
  | nil => exact .nil
  | cons => exact .cons (.str _ _) (by assumption)
theorem subA1 {x : Addr × Obj} {a b : List (Addr × Obj)} : ∀ q ∈ a ++ b, q ∈ a ++ x :: b := by
  intro q hq
  simp only [List.mem_append, List.mem_cons] at hq ⊢
  rcases hq with h | h <;> simp [h]
theorem mid1 {x : Addr × Obj} (a b : List (Addr × Obj)) : x ∈ a ++ x :: b := by simp
def PlainPost (news : List (Addr × Obj)) (ls : List LT) (r : Value) (news' : List (Addr × Obj)) : Prop :=
  ∃ (D : Addr) (ws : List Value) (k : Nat) (tl : List (Addr × Obj)), r = .ref D ∧ news' = (D, W.listOf ws.toArray k) :: (news ++ tl) ∧ DatAll (news ++ tl) ws (plainD ls) ∧ Above news tl ∧ Off D (news ++ tl)
theorem plain_does {b : Addr} {S : BS} (h : BoxAt w.params news b S) (hz : S.ls.length ≤ 1000) : Does prog w p loose mean mg mb 6 208 [.ref b] news (PlainPost news S.ls) := by
  cases h with
  | @mk d l gl t1 t2 t3 t4 t5 t6 t7 k3 k4 nm va f0 vs gs n gn h1 h2 h3 h4 h5 h6 =>
    have hlen : vs.length = S.ls.length := h4.length
    have hvz : vs.length ≤ 1000 := by omega
    unfold Does
    intro dp un gd cn cs a ccd cl outer A₀ base h₀ L m s Q E B F X N T hk hdp hun hret
    refine wpAny_call ?_
    k_dflt ktr_enter
    k_steps
    refine Hold.mk (compL1 (fun i ws tl => DatAll (news ++ tl) ws (plainD (S.ls.take i))) (by rfl) (by k_asm) (by k_asm) h3 hvz .nil ?_ ?_)
    · intro i v ws tl I oI C oC D m₂ g5 h tk E' hi hv hws hA hC hx F7 N7 off ne
      obtain ⟨x, hx', hLx⟩ := h4.at hv
      replace hx' := Hold.mk hx'
      replace hws := Hold.mk hws
      replace hA := Hold.mk hA
      cases hLx with
      | mk q1 q2 q3 q4 q5 =>
        have q1' : _ ∈ news ++ tl := List.mem_append.mpr (.inl q1)
        have q2' : _ ∈ news ++ tl := List.mem_append.mpr (.inl q2)
        have q3' : _ ∈ news ++ tl := List.mem_append.mpr (.inl q3)
        k_steps
        rename_i D2 _ F8 N8 l8
        refine Hold.mk (compEnd1 F8 N8 l8 off h3 hA.out ?_)
        show DatAll _ _ (List.map rowD _)
        rw [map_take hx'.out]
        refine DatAll.snoc1 (hws.out.mono subA1) (.tuple (mid1 _ _) (.cons (.int _ _) (.cons (.bytes _ _) (.cons (.tuple (subA1 _ q3') (strsDat q4)) (.cons (.int _ _) .nil)))))
    · intro gg ws tl hA hws D h9 tk9 F9 N9 off9
      rw [hlen, List.take_length] at hws
      replace hws := Hold.mk hws
      replace hA := Hold.mk hA
      replace off9 := Hold.mk (off1Off off9)
      k_steps
      exact hret _ _ _ _ (by assumption) (by assumption) ⟨D, ws, _, tl, rfl, rfl, hws.out, hA.out, off9.out⟩
end

theorem fresh_m13 : True ∧ True := by
  w_top off
  first | (walk1; done) | exact ⟨trivial, trivial⟩
section
open PyProof.Rows.LCg PyProof.Rows.LCt
variable {prog : Program} {w : World} {A : Around} {E : Value → Shared → Prop} {s : Shared} {h₀ : Heap} {L : Addr} {m : Str → Option Value} {env : Env}
/-- a comprehension's test, or none -/
def TestWp (prog : Program) (w : World) (A : Around) (env : Env) (cs : List PySem.Expr) (Q : Bool → Shared → Prop) (E : Value → Shared → Prop) (s : Shared) : Prop :=
  match cs with
  | [] => Q true s
  | c :: _ => wpAny (model prog w) A (isTrue c env (eval c env)) Q E s
theorem TestWp.mono {cs : List PySem.Expr} {Q Q' : Bool → Shared → Prop} (h : TestWp prog w A env cs Q E s) (hq : ∀ b s', Q b s' → Q' b s') : TestWp prog w A env cs Q' E s := by
  cases cs with
  | nil => exact hq _ _ h
  | cons c r => exact wpAny_mono h hq fun _ _ e => e
theorem kce_loop {elt target iter : PySem.Expr} {cs : List PySem.Expr} (hcs : cs.length ≤ 1) {scope : Scope} {pos : Pos} {it acc : Value} {env : Env} {R : Result → Shared → Prop} (I : Nat → Shared → Prop)
    (turn : ∀ n s, I n s → wpAny (model prog w) A (pyNext it) (fun r s₁ => match r with
      | none => R (.ok .next) s₁
      | some v => wpAny (model prog w) A (letOwnedTupleGo target it v) (fun _ s₀ => wpAny (model prog w) A (assign target env v) (fun _ s₂ =>
          TestWp prog w A env cs (fun ok s₃ => if ok = true then wpAny (model prog w) A (eval elt env) (fun x s₄ =>
            wpAny (model prog w) A (call (.builtin "list.append") [acc, x]) (fun _ s₅ => ∃ m, m < n ∧ I m s₅) (notedBy (model prog w) A env fun e s' => R (.error e) s') s₄) (notedBy (model prog w) A env fun e s' => R (.error e) s') s₃
            else ∃ m, m < n ∧ I m s₃) (notedBy (model prog w) A env fun e s' => R (.error e) s') s₂)
          (notedBy (model prog w) A env fun e s' => R (.error e) s') s₀) (notedBy (model prog w) A env fun e s' => R (.error e) s') s₁) (notedBy (model prog w) A env fun e s' => R (.error e) s') s)
    (n : Nat) (h : I n s) : codeAny (model prog w) A (.compLoop (.ListComp elt [⟨target, iter, cs, 0⟩] scope pos) 0 it acc env) R s := by
  match cs, hcs with
  | [], _ =>
    refine kcp_loop I (fun n s hI => ?_) n h
    refine wpAny_mono (turn n s hI) (fun r s₁ h₁ => ?_) fun _ _ e => e
    cases r with
    | none => exact h₁
    | some v => exact wpAny_mono h₁ (fun _ s₀ h₀ => wpAny_mono h₀ (fun _ s₂ h₂ => by simpa [TestWp] using h₂) fun _ _ e => e) fun _ _ e => e
  | [c], _ => exact kct_loop I turn n h
theorem neLe {a b n : Nat} (h1 : a < n) (h2 : n ≤ b) : @Ne Nat a b := Nat.ne_of_lt (Nat.lt_of_lt_of_le h1 h2)
/-- what stays when the places xs are written and nothing else -/
theorem carry {xs : List Addr} {h h' : Heap} (F : Fr h₀ L h m) (k : ∀ b o, b ∉ xs → h.get? b = some o → h'.get? b = some o) (out : ∀ b ∈ xs, b ≠ L ∧ h₀.get? b = none) : Fr h₀ L h' m where
  ns := F.ns.at' fun o e => k L o (fun hm => (out L hm).1 rfl) e
  keep b o e := k b o (fun hm => nomatch (out b hm).2.symm.trans e) (F.keep b o e)
  above := F.above
theorem carryN {xs : List Addr} {h h' : Heap} {nx : List (Addr × Obj)} (N : News h₀ L h nx) (k : ∀ b o, b ∉ xs → h.get? b = some o → h'.get? b = some o) (out : ∀ x ∈ xs, Off x nx) : News h₀ L h' nx :=
  fun p hp => (N p hp).imp_left (k p.1 p.2 fun hm => out p.1 hm p hp rfl)
/-- one object of the ledger is written anew -/
theorem newsSwap {h h' : Heap} {D : Addr} {o o' : Obj} {pre post : List (Addr × Obj)} (N : News h₀ L h (pre ++ (D, o) :: post)) (k : Heap.SameBut D h h') (g : h'.get? D = some o') (off : ∀ p ∈ pre ++ post, p.1 ≠ D) : News h₀ L h' (pre ++ (D, o') :: post) := by
  intro p hp
  have hD := N (D, o) (List.mem_append.mpr (.inr (.head _)))
  rcases List.mem_append.mp hp with hq | hq
  · exact (N p (List.mem_append.mpr (.inl hq))).imp_left (k.2 p.1 (off p (List.mem_append.mpr (.inl hq)))).trans
  cases hq with
  | head => exact ⟨g, hD.2⟩
  | tail _ hq => exact (N p (List.mem_append.mpr (.inr (.tail _ hq)))).imp_left (k.2 p.1 (off p (List.mem_append.mpr (.inr hq)))).trans
/-- a comprehension's own list D and its own frame C, both made behind the heap H -/
structure Opened (h₀ : Heap) (L : Addr) (m : Str → Option Value) (news : List (Addr × Obj)) (H h : Heap) (D C : Addr) : Prop where
  fr : Fr h₀ L h m
  nw : News h₀ L h ((D, lst []) :: news)
  keep : ∀ b o, H.get? b = some o → h.get? b = some o
  ns : ∃ m', h.Ns C m'
  atD : @LE.le Nat _ H.objs.size D
  atC : @LE.le Nat _ H.objs.size C
  apart : @Ne Nat C D
theorem comp_open {g : PySem.Expr} {it : Value} {scope : Scope} {cl : List (Str × Addr)} {news : List (Addr × Obj)} {RR : Value → Addr → Result → Shared → Prop} (hcell : ∀ y ∈ scope.names, y.2 ≠ .cell) (hkind : scope.kind = .function) (F : Fr h₀ L s.heap m) (N : News h₀ L s.heap news)
    (K : ∀ D C h tk, Opened h₀ L m news s.heap h D C → codeAny (model prog w) A (.compStart g 0 it (.ref D) (compEnvC scope cl C env)) (RR (.ref D) C) { s with heap := h, toks := tk }) :
    wpAny (model prog w) A (newList []) (fun acc s₃ => wpAny (model prog w) A (newFunctionEnv scope env.globals cl [] env.qual none .none (some env)) (fun cenv s₄ =>
      codeAny (model prog w) A (.compStart g 0 it acc { cenv with scope := relabel scope env }) (RR acc cenv.locals) s₄) E s₃) E s := by
  refine wpAny_newObj_type (wpAny_newFunctionEnv hcell (fun _ hx => nomatch hx) (fun h₁ n₁ k₁ => K _ _ h₁ _ ?_) hkind)
  have up : ∀ b o, @LT.lt Nat _ b (s.heap.objs.size + 1) → (s.heap.push (lst [])).get? b = some o → h₁.get? b = some o := fun b o hb e => k₁.extBut b o (by show @Ne Nat _ _; rw [Heap.size_push]; exact Nat.ne_of_lt hb) (Heap.get?_push_of_some _ e)
  have keep : ∀ b o, s.heap.get? b = some o → h₁.get? b = some o := fun b o e => up b o (Nat.lt_succ_of_lt (Heap.lt_size e)) (Heap.get?_push_of_some _ e)
  exact {
    fr := F.keeps keep
    nw := List.forall_mem_cons.mpr ⟨⟨up _ _ (Nat.lt_succ_self _) (Heap.get?_push_size _ rfl), (Nat.ne_of_lt F.ns.lt).symm, ktu_new F (Nat.le_refl _)⟩, N.grown keep⟩
    keep := keep
    ns := ⟨_, n₁⟩
    atD := Nat.le_refl _
    atC := by show @LE.le Nat _ _ _; rw [Heap.size_push]; exact Nat.le_succ _
    apart := by show @Ne Nat _ _; rw [Heap.size_push]; exact Nat.succ_ne_self _ }
/-- the list D and the frame C when a comprehension is through -/
structure Through (h₀ : Heap) (L : Addr) (m : Str → Option Value) (D C : Addr) (ys : List Value) (nx : List (Addr × Obj)) (h : Heap) : Prop where
  fr : Fr h₀ L h m
  nw : News h₀ L h ((D, lst ys) :: nx)
  ns : ∃ m', h.Ns C m'
  c0 : h₀.get? C = none
  cL : C ≠ L
  offD : Off D nx
  offC : Off C ((D, lst ys) :: nx)
theorem Through.left {D C : Addr} {ys : List Value} {nx : List (Addr × Obj)} {h h' : Heap} (T : Through h₀ L m D C ys nx h) (k : Heap.SameBut C h h') : Fr h₀ L h' m ∧ News h₀ L h' ((D, lst ys) :: nx) :=
  ⟨T.fr.change k T.cL T.c0, fun p hp => (T.nw p hp).imp_left (k.2 p.1 (T.offC p hp)).trans⟩
theorem Through.stored {D C : Addr} {ys : List Value} {nx : List (Addr × Obj)} {h h' : Heap} {m' : Str → Option Value} (T : Through h₀ L m D C ys nx h) (n : h'.Ns L m') (k : Heap.SameBut L h h') : Through h₀ L m' D C ys nx h' :=
  { T with fr := T.fr.set n k, nw := fun p hp => (T.nw p hp).imp_left (k.2 p.1 (T.nw p hp).2.1).trans, ns := T.ns.imp fun _ q => q.sameBut k T.cL }
/-- the end of a turn whose two iterators, names and list stand apart -/
def CompEndE (h₀ : Heap) (L : Addr) (m : Str → Option Value) (s₁ : Shared) (e it C D : Addr) (oe oi oC oD : Obj) (S : List (Addr × Obj) → Prop) (rest : Value → List (Addr × Obj) → Prop) (y : Value) (s₂ : Shared) : Prop :=
  ∃ h' tk news', s₂ = { s₁ with heap := h', toks := tk } ∧ Fr h₀ L h' m ∧ News h₀ L h' ((e, oe) :: (it, oi) :: (C, oC) :: (D, oD) :: news') ∧ (Off e news' ∧ Off it news' ∧ Off C news' ∧ Off D news') ∧ S news' ∧ rest y news'
structure FourApart (e it C D : Addr) : Prop where
  ei : @Ne Nat e it
  eC : @Ne Nat e C
  eD : @Ne Nat e D
  iC : @Ne Nat it C
  iD : @Ne Nat it D
  CD : @Ne Nat C D
def TurnE (prog : Program) (w : World) (A : Around) (h₀ : Heap) (L : Addr) (m : Str → Option Value) (env : Env) (cs : List PySem.Expr) (elt : PySem.Expr) (a b : Str) (scope : Scope) (cl : List (Str × Addr)) (s : Shared) (l : Addr) (lo : Obj) (vs : List Value)
    (J : Nat → List Value → List (Addr × Obj) → Prop) : Prop :=
  ∀ i v ys nx e it oe oi C oC D m₂ h tk t (E' : Value → Shared → Prop), i < vs.length → vs[i]? = some v → J i ys nx → (l, lo) ∈ nx → NsObj oC m₂ → m₂ a = some (.int ((i : Nat) : Int) t) → m₂ b = some v → Fr h₀ L h m →
    News h₀ L h ((e, oe) :: (it, oi) :: (C, oC) :: (D, lst ys) :: nx) → (Off e nx ∧ Off it nx ∧ Off C nx ∧ Off D nx) → FourApart e it C D →
    TestWp prog w A (compEnvC scope cl C env) cs (fun ok s' => if ok = true then
      wpAny (model prog w) A (eval elt (compEnvC scope cl C env)) (CompEndE h₀ L m { s with heap := h, toks := tk } e it C D oe oi oC (lst ys) (fun nx' => (l, lo) ∈ nx') (fun y nx' => J (i + 1) (ys ++ [y]) nx')) E' s'
      else CompEndE h₀ L m { s with heap := h, toks := tk } e it C D oe oi oC (lst ys) (fun nx' => (l, lo) ∈ nx') (fun _ nx' => J (i + 1) ys nx') .none s') E' { s with heap := h, toks := tk }
/-- where enumerate stands inside a comprehension, behind i turns -/
structure EAt (h₀ : Heap) (L : Addr) (m : Str → Option Value) (e it l C D : Addr) (lo : Obj) (J : Nat → List Value → List (Addr × Obj) → Prop) (i : Nat) (ys : List Value) (nx : List (Addr × Obj)) (h : Heap) : Prop where
  le : ys.length ≤ i
  en : ∃ old, IsEnum h e it ((i : Nat) : Int) old
  li : h.IsListIter it l i
  fr : Fr h₀ L h m
  ns : ∃ m', h.Ns C m'
  nw : News h₀ L h ((D, lst ys) :: nx)
  off : Off e nx ∧ Off it nx ∧ Off C nx ∧ Off D nx
  hm : (l, lo) ∈ nx
  hj : J i ys nx
/-- the objects of the two iterators and of the frame say so, wherever they lie -/
structure ESeat (e it l : Addr) (i : Nat) (m₂ : Str → Option Value) (oe oi oC : Obj) : Prop where
  en : ∀ h : Heap, h.get? e = some oe → ∃ old, IsEnum h e it ((i : Nat) : Int) old
  li : ∀ h : Heap, h.get? it = some oi → h.IsListIter it l i
  ns : NsObj oC m₂
theorem ESeat.of {h : Heap} {e it l C : Addr} {i : Nat} {old : Value} {m₂ : Str → Option Value} (hE : IsEnum h e it ((i : Nat) : Int) old) (hI : h.IsListIter it l i) (hC : h.Ns C m₂) :
    ∃ oe oi oC, h.get? e = some oe ∧ h.get? it = some oi ∧ h.get? C = some oC ∧ ESeat e it l i m₂ oe oi oC := by
  obtain ⟨oi, gi, z⟩ := hI
  obtain ⟨oC, gC, q⟩ := ns_obj hC
  exact ⟨_, oi, oC, hE, gi, gC, fun _ x => ⟨old, x⟩, fun _ x => ⟨oi, x, z⟩, q⟩
theorem ESeat.at {h : Heap} {e it l C D : Addr} {i : Nat} {m₂ : Str → Option Value} {oe oi oC lo : Obj} {J : Nat → List Value → List (Addr × Obj) → Prop} {ys : List Value} {nx : List (Addr × Obj)} (S : ESeat e it l i m₂ oe oi oC) (le : ys.length ≤ i) (F : Fr h₀ L h m)
    (N : News h₀ L h ((e, oe) :: (it, oi) :: (C, oC) :: (D, lst ys) :: nx)) (off : Off e nx ∧ Off it nx ∧ Off C nx ∧ Off D nx) (hm : (l, lo) ∈ nx) (hj : J i ys nx) : EAt h₀ L m e it l C D lo J i ys nx h := by
  simp only [News, List.forall_mem_cons] at N
  obtain ⟨⟨ge, _⟩, ⟨gi, _⟩, ⟨gC, _⟩, N⟩ := N
  exact ⟨le, S.en h ge, S.li h gi, F, ⟨_, S.ns.ns gC⟩, List.forall_mem_cons.mpr N, off, hm, hj⟩
theorem block_E {elt iter : PySem.Expr} {cs : List PySem.Expr} (hcs : cs.length ≤ 1) {a b : Str} {pa pb tp : Pos} {kk : Nat} {scope : Scope} {cl : List (Str × Addr)} {pos : Pos} {e it l : Addr} {vs : List Value} {k : Nat} {news : List (Addr × Obj)}
    {J : Nat → List Value → List (Addr × Obj) → Prop} {RR : Value → Addr → Result → Shared → Prop}
    (hh : A.handled = none) (hei : e ≠ it) (hle : l ≠ e) (hli : l ≠ it) (hsz : vs.length ≤ sizeLine) (hE : IsEnum s.heap e it 0 .none) (hI : s.heap.IsListIter it l 0) (hm : (l, W.listOf vs.toArray k) ∈ news)
    (hcell : ∀ y ∈ scope.names, y.2 ≠ .cell) (hkind : scope.kind = .function) (hxa : scope.names.lookup a = some .local) (hxb : scope.names.lookup b = some .local) (hab : ¬ a = b)
    (F : Fr h₀ L s.heap m) (N : News h₀ L s.heap news) (out : ∀ x ∈ [e, it], x ≠ L ∧ h₀.get? x = none) (off : Off e news ∧ Off it news) (hJ : J 0 [] news)
    (R : TurnE prog w A h₀ L m env cs elt a b scope cl s l (W.listOf vs.toArray k) vs J)
    (hRR : ∀ D C h tk ys nx, Through h₀ L m D C ys nx h → J vs.length ys nx → RR (.ref D) C (.ok .next) { s with heap := h, toks := tk }) :
    wpAny (model prog w) A (newList []) (fun acc s₃ => wpAny (model prog w) A (newFunctionEnv scope env.globals cl [] env.qual none .none (some env)) (fun cenv s₄ =>
      codeAny (model prog w) A (.compStart (.ListComp elt [⟨.Tuple [.Name a pa, .Name b pb] kk tp, iter, cs, 0⟩] scope pos) 0 (.ref e) acc { cenv with scope := relabel scope env }) (RR acc cenv.locals) s₄) E s₃) E s := by
  refine comp_open hcell hkind F N fun D C h₁ tk₁ O => ?_
  -- the four places stand apart and are no one else's
  have lte : @LT.lt Nat _ e s.heap.objs.size := Heap.lt_size (o := _) hE
  have lti : @LT.lt Nat _ it s.heap.objs.size := hI.elim fun _ x => Heap.lt_size x.1
  have ap : FourApart e it C D := ⟨hei, neLe lte O.atC, neLe lte O.atD, neLe lti O.atC, neLe lti O.atD, O.apart⟩
  have lone : ∀ x, s.heap.objs.size ≤ x → x ≠ L ∧ h₀.get? x = none := fun x hx => ⟨(neLe F.ns.lt hx).symm, ktu_new F hx⟩
  have out3 : ∀ x ∈ [e, it, C], x ≠ L ∧ h₀.get? x = none := fun x hx => by
    rcases List.mem_append.mp (show x ∈ [e, it] ++ [C] from hx) with h | h
    · exact out x h
    · exact List.mem_singleton.mp h ▸ lone C O.atC
  have offNew : ∀ x, s.heap.objs.size ≤ x → Off x news := fun x hx p hp => neLe (Heap.lt_size (N p hp).1) hx
  have notC : C ∉ [e, it] := by simpa using ⟨ap.eC.symm, ap.iC.symm⟩
  have notD : D ∉ [e, it, C] := by simpa using ⟨ap.eD.symm, ap.iD.symm, ap.CD.symm⟩
  -- the loop
  suffices loop : codeAny (model prog w) A (.compLoop (.ListComp elt [⟨.Tuple [.Name a pa, .Name b pb] kk tp, iter, cs, 0⟩] scope pos) 0 (.ref e) (.ref D) (compEnvC scope cl C env)) (RR (.ref D) C) { s with heap := h₁, toks := tk₁ } from
    codeAny_compStart_list loop (wpAny_pyIter_enum (O.keep _ _ hE) loop)
  have start : EAt h₀ L m e it l C D (W.listOf vs.toArray k) J 0 [] news h₁ :=
    ⟨Nat.le_refl _, ⟨_, O.keep _ _ hE⟩, hI.at fun _ x => O.keep _ _ x, O.fr, O.ns, O.nw, ⟨off.1, off.2, offNew C O.atC, offNew D O.atD⟩, hm, hJ⟩
  refine kce_loop hcs (fun q s' => ∃ i ys nx h tk, s' = { s with heap := h, toks := tk } ∧ q + i = vs.length + 1 ∧ i ≤ vs.length ∧ EAt h₀ L m e it l C D (W.listOf vs.toArray k) J i ys nx h) ?_ (vs.length + 1) ⟨0, [], news, h₁, tk₁, rfl, rfl, Nat.zero_le _, start⟩
  rintro q _ ⟨i, ys, nx, h, tk, rfl, hq, hi, S⟩
  have Wk := KTurns.ofWalksU (elts := [.Name a pa, .Name b pb]) (k := kk) (pos := tp) (WalksT.enumerate (prog := prog) (w := w) hh e it l hei hle hli vs.toArray).toU
  have st := And.intro S.en (And.intro S.li (show h.IsList l vs.toArray from ⟨_, (S.nw _ (.tail _ S.hm)).1, rfl, _, rfl⟩))
  rcases Nat.lt_or_ge i vs.length with lt | ge
  · refine Wk.item i _ _ _ (by simpa using lt) st fun v h₂ tk₂ md k₂ => Wk.go i v _ _ _ md fun h₃ P₃ st₃ k₃ => ?_
    obtain ⟨T, _, rfl, ⟨t, x, hx, rfl⟩, hT⟩ := P₃
    obtain ⟨⟨old, en⟩, li, _⟩ := st₃
    obtain ⟨m', ns⟩ := S.ns
    refine kcp_assign (env := compEnvC scope cl C env) hh hT (lookup_relabel_local hxa) (lookup_relabel_local hxb) (by simp [compEnvC, relabel, hkind]) (ns.at' fun o x => k₃ C o notC (k₂ C o notC x)) fun h₄ tk₄ ns₄ k₄ => ?_
    have all : ∀ b o, b ∉ [e, it, C] → h.get? b = some o → h₄.get? b = some o := fun b o hb x => by
      have hb : b ∉ [e, it] ∧ b ≠ C := by simpa [and_assoc] using hb
      exact k₄ b o hb.2 (k₃ b o hb.1 (k₂ b o hb.1 x))
    obtain ⟨oe, oi, oC, ge, gi, gC, seat⟩ := ESeat.of (k₄ e _ ap.eC en) (li.at fun o x => k₄ it o ap.iC x) ns₄
    have N₄ : News h₀ L h₄ ((e, oe) :: (it, oi) :: (C, oC) :: (D, lst ys) :: nx) := by
      refine List.forall_mem_cons.mpr ⟨⟨ge, out3 e (.head _)⟩, List.forall_mem_cons.mpr ⟨⟨gi, out3 it (.tail _ (.head _))⟩, List.forall_mem_cons.mpr ⟨⟨gC, lone C O.atC⟩, carryN S.nw all fun x hx => ?_⟩⟩⟩
      refine List.forall_mem_cons.mpr ⟨fun q => notD ((show D = x from q) ▸ hx), ?_⟩
      have hx : x = e ∨ x = it ∨ x = C := by simpa using hx
      rcases hx with rfl | rfl | rfl
      · exact S.off.1
      · exact S.off.2.1
      · exact S.off.2.2.1
    have land : ∀ ys' nx' h₅ tk₅, ys'.length ≤ i + 1 → Fr h₀ L h₅ m → News h₀ L h₅ ((e, oe) :: (it, oi) :: (C, oC) :: (D, lst ys') :: nx') → (Off e nx' ∧ Off it nx' ∧ Off C nx' ∧ Off D nx') → (l, W.listOf vs.toArray k) ∈ nx' → J (i + 1) ys' nx' →
        ∃ q', q' < q ∧ ∃ i ys nx h tk, ({ s with heap := h₅, toks := tk₅ } : Shared) = { s with heap := h, toks := tk } ∧ q' + i = vs.length + 1 ∧ i ≤ vs.length ∧ EAt h₀ L m e it l C D (W.listOf vs.toArray k) J i ys nx h :=
      fun ys' nx' h₅ tk₅ le F₅ N₅ o₅ m₅ j₅ => ⟨q - 1, by omega, i + 1, ys', nx', h₅, tk₅, rfl, by omega, lt, seat.at le F₅ N₅ o₅ m₅ j₅⟩
    refine TestWp.mono (R i x ys nx e it oe oi C oC D _ h₄ _ t _ lt (by simpa using hx) S.hj S.hm seat.ns (by simp [hab]) (by simp) (carry S.fr all out3) N₄ S.off ap) fun ok s₅ z => ?_
    cases ok
    · obtain ⟨h₅, tk₅, nx₅, rfl, F₅, N₅, o₅, m₅, j₅⟩ := z
      exact land ys nx₅ h₅ tk₅ (Nat.le_succ_of_le S.le) F₅ N₅ o₅ m₅ j₅
    · refine wpAny_mono (show wpAny _ _ _ _ _ _ from z) (fun y s₆ z₆ => ?_) fun _ _ => id
      obtain ⟨h₅, tk₅, nx₅, rfl, F₅, N₅, o₅, m₅, j₅⟩ := z₆
      refine append_at (N₅ (D, lst ys) (.tail _ (.tail _ (.tail _ (.head _))))).1 (fun h₆ k₆ gD => land (ys ++ [y]) nx₅ h₆ _ (by simpa using S.le) (F₅.change k₆ (lone D O.atD).1 (lone D O.atD).2) ?_ o₅ m₅ j₅) ?_
      · refine newsSwap (pre := [(e, oe), (it, oi), (C, oC)]) N₅ k₆ (gD.trans (congrArg some (lst_snoc ys y))) fun p hp => ?_
        have hp : p = (e, oe) ∨ p = (it, oi) ∨ p = (C, oC) ∨ p ∈ nx₅ := by simpa using hp
        rcases hp with rfl | rfl | rfl | hp
        · exact ap.eD
        · exact ap.iD
        · exact ap.CD
        · exact o₅.2.2.2 p hp
      · show ys.toArray.size ≤ sizeLine
        have := S.le
        simp
        omega
  · obtain rfl : i = vs.length := Nat.le_antisymm hi ge
    refine Wk.done _ _ _ (by simpa using st) fun h₂ tk₂ k₂ => hRR D C h₂ tk₂ ys nx ?_ S.hj
    have off2 : ∀ x ∈ [e, it], Off x ((D, lst ys) :: nx) := fun x hx => by
      have hx : x = e ∨ x = it := by simpa using hx
      rcases hx with rfl | rfl
      · exact List.forall_mem_cons.mpr ⟨ap.eD.symm, S.off.1⟩
      · exact List.forall_mem_cons.mpr ⟨ap.iD.symm, S.off.2.1⟩
    exact ⟨carry S.fr k₂ out, carryN S.nw k₂ off2, S.ns.imp fun _ n => n.at' fun o x => k₂ C o notC x, (lone C O.atC).2, (lone C O.atC).1, S.off.2.2.2, List.forall_mem_cons.mpr ⟨ap.CD.symm, S.off.2.2.1⟩⟩
end

theorem fresh_m14 : True ∧ True := by
  w_top off
  first | (walk1; done) | exact ⟨trivial, trivial⟩
section
open PyProof.Rows.LCg PyProof.Rows.LCt
variable {prog : Program} {w : World} {A : Around} {E : Value → Shared → Prop} {s : Shared} {h₀ : Heap} {L : Addr} {m : Str → Option Value} {env : Env}
theorem off1Of {D : Addr} {l : List (Addr × Obj)} (h : Off D l) : Off1 D l := by
  induction l with
  | nil => trivial
  | cons a r ih => exact ⟨h a (.head _), ih fun p hp => h p (.tail _ hp)⟩
theorem offOf1 {D : Addr} : ∀ {l : List (Addr × Obj)}, Off1 D l → Off D l
  | [], _ => fun _ hp => nomatch hp
  | _ :: _, ⟨h, r⟩ => List.forall_mem_cons.mpr ⟨h, offOf1 r⟩
/-- behind a comprehension: its value, or its value under a name -/
theorem Through.value {D C : Addr} {ys : List Value} {nx : List (Addr × Obj)} {h : Heap} {tk : Nat} {Q : Value → Shared → Prop} (T : Through h₀ L m D C ys nx h) (fin : FinE h₀ L m s Q ys nx) :
    compPost (model prog w) A E none Q (.ref D) C (.ok .next) { s with heap := h, toks := tk } :=
  T.ns.imp fun _ n => ⟨n, fun _ k => fin D _ tk (T.left k).1 (T.left k).2 (off1Of T.offD)⟩
theorem Through.named {D C : Addr} {ys : List Value} {nx : List (Addr × Obj)} {h : Heap} {tk : Nat} {y : Str} {py : Pos} {Q : Flow → Shared → Prop} (T : Through h₀ env.locals m D C ys nx h) (hy : env.kindOf y = some .local)
    (hp : (env.scope.kind == .class || (env.scope.kind == .module && env.locals != env.globals)) = false) (fin : FinA h₀ env.locals m s y Q ys nx) :
    compPost (model prog w) A E (some (assign (.Name y py) env)) (fun _ s' => Q .next s') (.ref D) C (.ok .next) { s with heap := h, toks := tk } := by
  unfold compPost
  refine wpAny_assign_Name (wpAny_storeName_local hy T.fr.ns (fun h₂ n₂ k₂ => ?_) hp)
  have T₂ := T.stored n₂ k₂
  exact T₂.ns.imp fun _ n => ⟨n, fun _ k => fin D _ _ (T₂.left k).1 (T₂.left k).2 (off1Of T.offD)⟩
/-- a list comprehension of one clause, read as a value or stored under a name: from the source on -/
abbrev CompRun (prog : Program) (w : World) (A : Around) (E : Value → Shared → Prop) (env : Env) (elt : PySem.Expr) (g : PySem.Comprehension) (scope : Scope) (cl : List (Str × Addr)) (pos : Pos) (RR : Value → Addr → Result → Shared → Prop) (x : Value) (s₁ : Shared) : Prop :=
  wpAny (model prog w) A (pyIter x) (fun it s₂ => wpAny (model prog w) A (newList []) (fun acc s₃ => wpAny (model prog w) A (newFunctionEnv scope env.globals cl [] env.qual none .none (some env)) (fun cenv s₄ =>
    codeAny (model prog w) A (.compStart (.ListComp elt [g] scope pos) 0 it acc { cenv with scope := relabel scope env }) (RR acc cenv.locals) s₄) E s₃) E s₂) E s₁
theorem comp_value {elt : PySem.Expr} {g : PySem.Comprehension} {scope : Scope} {cl : List (Str × Addr)} {pos : Pos} {Q : Value → Shared → Prop} (ha : firstAsync [g] = false) (hs : ∀ x, foldedSetIterable g.iter env x = pure x) (hclos : closureFor scope env = pure cl) (hkind : scope.kind = .function)
    (hnames : ∀ z ∈ scope.names, z.2 = .local → scope.names.lookup z.1 = some .local)
    (h : wpAny (model prog w) A (firstIter [g] env) (CompRun prog w A E env elt g scope cl pos (compPost (model prog w) A E none Q)) E s) : wpAny (model prog w) A (eval (.ListComp elt [g] scope pos) env) Q E s := by
  rw [eval_ListComp, ha]
  exact wpAny_comprehension_free rfl hs hclos hkind hnames h
theorem comp_named {elt : PySem.Expr} {g : PySem.Comprehension} {scope : Scope} {cl : List (Str × Addr)} {pos spos py : Pos} {y : Str} {Q : Flow → Shared → Prop} (ha : firstAsync [g] = false) (hsw : swapsWith (.ListComp elt [g] scope pos) (some (.Name y py)) spos.line env = pure true)
    (hs : ∀ x, foldedSetIterable g.iter env x = pure x) (hclos : closureFor scope env = pure cl) (hkind : scope.kind = .function) (hnames : ∀ z ∈ scope.names, z.2 = .local → scope.names.lookup z.1 = some .local)
    (h : wpAny (model prog w) A (firstIter [g] env) (CompRun prog w A E env elt g scope cl pos (compPost (model prog w) A E (some (assign (.Name y py) env)) fun _ s' => Q .next s')) E s) :
    wpAny (model prog w) A (exec (.Assign [.Name y py] (.ListComp elt [g] scope pos) spos) env) Q E s := by
  have whole := wpAny_comprehension_free (e := .ListComp elt [g] scope pos) (pos := firstIterPos [g] pos) rfl hs hclos hkind hnames h
  rw [← ha] at whole
  rw [exec_Assign_Name_used _ _ _ _ hsw]
  exact wpAny_bind (wpAny_standAt (wpAny_bind (wpAny_bind (wpAny_mono whole (fun _ _ q => wpAny_pure (wpAny_pure q)) fun _ _ => id))))
def ESrc (prog : Program) (w : World) (A : Around) (h₀ : Heap) (L : Addr) (m : Str → Option Value) (env : Env) (cs : List PySem.Expr) (elt : PySem.Expr) (a b : Str) (scope : Scope) (cl : List (Str × Addr)) (Fin : Shared → List Value → List (Addr × Obj) → Prop) (xv : Value) (s₁ : Shared) : Prop :=
  ∃ (e it l : Addr) (vs : List Value) (k : Nat) (news : List (Addr × Obj)) (J : Nat → List Value → List (Addr × Obj) → Prop), xv = .ref e ∧ A.handled = none ∧ (e ≠ it ∧ l ≠ e ∧ l ≠ it) ∧ vs.length ≤ sizeLine ∧ IsEnum s₁.heap e it 0 .none ∧ s₁.heap.IsListIter it l 0 ∧ (l, W.listOf vs.toArray k) ∈ news ∧
    Fr h₀ L s₁.heap m ∧ News h₀ L s₁.heap news ∧ (∀ x ∈ [e, it], x ≠ L ∧ h₀.get? x = none) ∧ (Off e news ∧ Off it news) ∧ J 0 [] news ∧ TurnE prog w A h₀ L m env cs elt a b scope cl s₁ l (W.listOf vs.toArray k) vs J ∧ ∀ ys news', J vs.length ys news' → Fin s₁ ys news'
theorem Assign_ListComp_E {elt iter : PySem.Expr} {cs : List PySem.Expr} (hcs : cs.length ≤ 1) {a b y : Str} {pa pb tp py : Pos} {kk : Nat} {scope : Scope} {cl : List (Str × Addr)} {pos spos : Pos} {Q : Flow → Shared → Prop} (F₀ : Fr h₀ L s.heap m) (hLe : env.locals = L)
    (hsw : swapsWith (.ListComp elt [⟨.Tuple [.Name a pa, .Name b pb] kk tp, iter, cs, 0⟩] scope pos) (some (.Name y py)) spos.line env = pure true)
    (hclos : closureFor scope env = pure cl) (hcell : ∀ z ∈ scope.names, z.2 ≠ .cell) (hkind : scope.kind = .function)
    (hnames : ∀ z ∈ scope.names, z.2 = .local → scope.names.lookup z.1 = some .local) (hxa : scope.names.lookup a = some .local) (hxb : scope.names.lookup b = some .local) (hab : ¬ a = b)
    (hy : env.kindOf y = some .local) (hp : (env.scope.kind == .class || (env.scope.kind == .module && env.locals != env.globals)) = false)
    (h : wpAny (model prog w) A (eval iter env) (ESrc prog w A h₀ L m env cs elt a b scope cl (fun s₂ => FinA h₀ L m s₂ y Q)) E s)
    (hs : ∀ x, foldedSetIterable iter env x = pure x := by intro _; rfl) :
    wpAny (model prog w) A (exec (.Assign [.Name y py] (.ListComp elt [⟨.Tuple [.Name a pa, .Name b pb] kk tp, iter, cs, 0⟩] scope pos) spos) env) Q E s := by
  cases hLe
  refine comp_named rfl hsw hs hclos hkind hnames (wpAny_mono h ?_ fun _ _ => id)
  rintro _ s₁ ⟨e, it, l, vs, k, news, J, rfl, hh, ⟨n1, n2, n3⟩, hsz, hE, hI, hm, F, N, out, off, hJ, R, fin⟩
  exact wpAny_pyIter_enum hE (block_E hcs hh n1 n2 n3 hsz hE hI hm hcell hkind hxa hxb hab F N out off hJ R fun D C h' tk ys nx T j => T.named hy hp (fin ys nx j))
/-- enumerate over a list of the ledger, inside a comprehension; what a turn makes stands behind the ledger -/
theorem enumSrc {elt : PySem.Expr} {cs : List PySem.Expr} {a b : Str} {scope : Scope} {cl : List (Str × Addr)} {Fin : Shared → List Value → List (Addr × Obj) → Prop} {l : Addr} {vs : List Value} {k : Nat} {news : List (Addr × Obj)} (J : Nat → List Value → List (Addr × Obj) → Prop)
    (hh : A.handled = none) (F : Fr h₀ L s.heap m) (N : News h₀ L s.heap news) (hm : (l, W.listOf vs.toArray k) ∈ news) (hsz : vs.length ≤ 1000) (hj : J 0 [] [])
    (turn : ∀ i v ys tl e it oe oi C oC D m₂ g h tk t (E' : Value → Shared → Prop), i < vs.length → vs[i]? = some v → J i ys tl → Above news tl → NsObj oC m₂ → m₂ a = some (.int ((i : Nat) : Int) t) → m₂ b = some v → Fr h₀ L h m →
      News h₀ L h ((e, oe) :: (it, oi) :: (C, oC) :: (D, lst ys) :: (news ++ tl)) → (Off e (news ++ tl) ∧ Off it (news ++ tl) ∧ Off C (news ++ tl) ∧ Off D (news ++ tl)) → FourApart e it C D →
      TestWp prog w A (compEnvC scope cl C env) cs (fun ok s' => if ok = true then
        wpAny (model prog w) A (eval elt (compEnvC scope cl C env)) (CompEndE h₀ L m { ({ s with heap := g } : Shared) with heap := h, toks := tk } e it C D oe oi oC (lst ys) (fun nx' => (l, W.listOf vs.toArray k) ∈ nx') (fun y nx' => ∃ tl', nx' = news ++ tl' ∧ Above news tl' ∧ J (i + 1) (ys ++ [y]) tl')) E' s'
        else CompEndE h₀ L m { ({ s with heap := g } : Shared) with heap := h, toks := tk } e it C D oe oi oC (lst ys) (fun nx' => (l, W.listOf vs.toArray k) ∈ nx') (fun _ nx' => ∃ tl', nx' = news ++ tl' ∧ Above news tl' ∧ J (i + 1) ys tl') .none s') E' { ({ s with heap := g } : Shared) with heap := h, toks := tk })
    (done : ∀ g ys tl, Above news tl → J vs.length ys tl → Fin { s with heap := g } ys (news ++ tl)) :
    wpAny (model prog w) A (call (.type "enumerate") [.ref l]) (ESrc prog w A h₀ L m env cs elt a b scope cl Fin) E s := by
  have hax := N _ hm
  have hl : s.heap.IsList l vs.toArray := ⟨_, hax.1, rfl, _, rfl⟩
  have hlt : l < s.heap.objs.size := Heap.lt_size hax.1
  refine call_enumerate_list hl fun h' hE hI hsz' hk => ?_
  refine ⟨_, _, l, vs, k, news, fun i ys nx => ∃ tl, nx = news ++ tl ∧ Above news tl ∧ J i ys tl, rfl, hh, ⟨Nat.succ_ne_self _, Nat.ne_of_lt (Nat.lt_succ_of_lt hlt), Nat.ne_of_lt hlt⟩, by rw [sizeLine_eq]; omega, hE, hI, hm, F.keeps hk, N.grown hk,
    ?_, ⟨fun p hp => Nat.ne_of_lt (Nat.lt_succ_of_lt (Heap.lt_size (N p hp).1)), fun p hp => Nat.ne_of_lt (Heap.lt_size (N p hp).1)⟩, ⟨[], by simp, (fun _ _ _ h => nomatch h), hj⟩, ?_, ?_⟩
  · have away : ∀ x, s.heap.objs.size ≤ x → x ≠ L ∧ h₀.get? x = none := fun x hx => ⟨(neLe F.ns.lt hx).symm, ktu_new F hx⟩
    exact List.forall_mem_cons.mpr ⟨away _ (Nat.le_add_right _ _), List.forall_mem_cons.mpr ⟨away _ (Nat.le_refl _), fun _ hx => nomatch hx⟩⟩
  · rintro i v ys nx e it oe oi C oC D m₂ h tk t E' hi hv ⟨tl, rfl, hA, hJ⟩ hmm hC ha hb F' N' off' ne
    exact turn i v ys tl e it oe oi C oC D m₂ _ h tk t E' hi hv hJ hA hC ha hb F' N' off' ne
  · rintro ys nx ⟨tl, rfl, hA, hJ⟩
    exact done _ ys tl hA hJ
end

theorem fresh_m15 : True ∧ True := by
  w_top off
  first | (walk1; done) | exact ⟨trivial, trivial⟩
section
open PyProof.Rows.LCg PyProof.Rows.LCt
theorem compEndE0 {h₀ : Heap} {L : Addr} {m : Str → Option Value} {s₁ : Shared} {e it C D : Addr} {oe oi oC oD lo : Obj} {l : Addr} {R : Value → List (Addr × Obj) → Prop} {y : Value} {h' : Heap} {tk : Nat} {base tl : List (Addr × Obj)}
    (F : Fr h₀ L h' m) (N : News h₀ L h' ((e, oe) :: (it, oi) :: (C, oC) :: (D, oD) :: (base ++ tl))) (off : Off e (base ++ tl) ∧ Off it (base ++ tl) ∧ Off C (base ++ tl) ∧ Off D (base ++ tl)) (hm : (l, lo) ∈ base) (hA : Above base tl) (r : R y tl) :
    CompEndE h₀ L m s₁ e it C D oe oi oC oD (fun nx' => (l, lo) ∈ nx') (fun y nx' => ∃ tl', nx' = base ++ tl' ∧ Above base tl' ∧ R y tl') y { s₁ with heap := h', toks := tk } :=
  ⟨h', tk, _, rfl, F, N, off, List.mem_append.mpr (.inl hm), tl, rfl, hA, r⟩
end
theorem fresh_m15_1 : True ∧ True := by
  w_top off
  first | (walk1; done) | exact ⟨trivial, trivial⟩
section
variable {prog : Program} {w : World} {p : Program} {loose : List Str} {mean : ExcName → Option Value} {mg mb : Str → Option Value} {t : Tok} {news : List (Addr × Obj)}
local macro_rules | `(tactic| walk_at "exec Assign cons ListComp") => `(tactic| (k_here; (with_reducible show wpAny _ _ (exec (PySem.Stmt.Assign [PySem.Expr.Name _ _] (PySem.Expr.ListComp _ [PySem.Comprehension.mk (PySem.Expr.Tuple [PySem.Expr.Name _ _, PySem.Expr.Name _ _] _ _) _ _ _] _ _) _) _) _ _ _); k_dflt (refine' Assign_ListComp_E ?hcs (F₀ := by k_asm) ?a1 ?a2 ?a3 ?a4 ?a5 ?a6 ?a7 ?a8 ?a10 ?a11 ?a9 ?_; (case hcs => decide); (case a1 => rfl); (case a3 => with_unfolding_all rfl); (case a4 => decide); (case a5 => rfl); (case a6 => decide); (case a7 => rfl); (case a8 => rfl); (case a10 => first | decide | decide +kernel); (case a11 => rfl); (case a9 => rfl); (case a2 => with_unfolding_all rfl))))
local macro_rules | `(tactic| walk_at "call type:enumerate") => `(tactic| (refine hold_tree ?_))
local macro_rules | `(tactic| walk_at "call ref") => `(tactic| (k_here; (with_reducible show wpAny _ _ (call (Value.ref 183) _) _ _ _); refine hold_tree ?_))
theorem turn_endR {h₀ : Heap} {x : Str} {L : Addr} {stored : List Str} {m₀ m' : Str → Option Value} {J' : List (Addr × Obj) → Prop} {own news' : List (Addr × Obj)} {s₁ : Shared} {h' : Heap} {tk : Nat} (nx : List (Addr × Obj)) (F : Fr h₀ L h' m') (N : News h₀ L h' news') (hs : ∀ p ∈ nx, p ∈ news') (ht : ∀ p ∈ own, p ∈ news')
    (ho : OwnOff own (nx.map (·.1))) (hj : J' nx) (hm : Same x stored m₀ m') : InvEndG h₀ L (fun m' nx' => J' nx' ∧ Same x stored m₀ m') own s₁ { s₁ with heap := h', toks := tk } :=
  ⟨h', tk, m', news', nx, rfl, F, N, hs, ht, ho, hj, hm⟩
theorem powPos {b : Int} (hb : 0 < b) (k : Nat) : b ^ k ≠ 0 := Int.ne_of_gt (Int.pow_pos hb)
theorem log16 {k : Nat} (h : k ≤ 9) : ((16 : Int) ^ k).natAbs.log2 < 9000 := by
  have : ∀ k : Nat, k < 10 → ((16 : Int) ^ k).natAbs.log2 < 9000 := by decide +kernel
  exact this k (by omega)
theorem log2k {k : Nat} (h : k ≤ 9) : ((2 : Int) ^ k).natAbs.log2 < 9000 := by
  have : ∀ k : Nat, k < 10 → ((2 : Int) ^ k).natAbs.log2 < 9000 := by decide +kernel
  exact this k (by omega)
local macro_rules | `(tactic| walk_at "binaryOp FloorDiv int int") => `(tactic| (k_here; (with_reducible show wpAny _ _ (binaryOp _ (Value.int _ _) (Value.int ((16 : Int) ^ _) _)) _ _ _); (refine floordiv_int (powPos (by decide) _) ?_ (Or.inl (PyProof.noPylong_of_log2 (log16 (by omega)))))))
local macro_rules | `(tactic| walk_at "binaryOp FloorDiv int int") => `(tactic| (k_here; (with_reducible show wpAny _ _ (binaryOp _ (Value.int _ _) (Value.int ((2 : Int) ^ _) _)) _ _ _); (refine floordiv_int (powPos (by decide) _) ?_ (Or.inl (PyProof.noPylong_of_log2 (log2k (by omega)))))))
def sel {α : Type} : List Bool → List α → List α
  | b :: bs, x :: xs => (if b then [x] else []) ++ sel bs xs
  | _, _ => []
theorem sel_snoc {α : Type} {x : α} : ∀ (bs : List Bool) (xs : List α) (b : Bool), xs[bs.length]? = some x → sel (bs ++ [b]) xs = sel bs xs ++ if b then [x] else []
  | [], y :: ys, b, h => by
    obtain rfl := Option.some.inj h
    cases ys <;> simp [sel]
  | c :: bs, y :: ys, b, h => by
    show (if c then [y] else []) ++ sel (bs ++ [b]) ys = _
    rw [sel_snoc bs ys b (by simpa using h), ← List.append_assoc]
    rfl
  | [], [], b, h => by simp at h
  | c :: bs, [], b, h => by simp at h
theorem sel_ok {bs : List Bool} (h : bs.length = 4) : FlagsOk (sel bs Known) := by
  match bs, h with
  | [a, b, c, d], _ =>
    have h1 : ∀ a b c d : Bool, (∀ x ∈ sel [a, b, c, d] Known, x ∈ Known) ∧ (sel [a, b, c, d] Known).Nodup ∧ sortedS (sel [a, b, c, d] Known) = true ∧ (sel [a, b, c, d] Known).length ≤ 4 := by decide +kernel
    exact ⟨(h1 a b c d).1, (h1 a b c d).2.1, (h1 a b c d).2.2.1, (h1 a b c d).2.2.2⟩
theorem TestWp.one {A : Around} {E : Value → Shared → Prop} {s : Shared} {env : Env} {c : PySem.Expr} {Q : Bool → Shared → Prop} (h : wpAny (model prog w) A (isTrue c env (eval c env)) Q E s) : TestWp prog w A env [c] Q E s := h
theorem TestWp.no {A : Around} {E : Value → Shared → Prop} {s : Shared} {env : Env} {Q : Bool → Shared → Prop} (h : Q true s) : TestWp prog w A env [] Q E s := h
structure InvS (S : BS) (k : Nat) : Prop where
  asc : S.ls.Pairwise (fun a b => a.uid < b.uid)
  below : ∀ x ∈ S.ls, x.uid < S.nu
  size : S.ls.length ≤ 5 + 9 * k
  gone : S.gd.length ≤ 9 * k
theorem InvS.push {S : BS} {k : Nat} {o : Array UInt8} {fl : List Str} {i md tp : Int} (h : InvS S k) (hs : S.ls.length + 1 ≤ 5 + 9 * k) : InvS ⟨S.ls ++ [⟨S.nu, o, fl, i, md⟩], S.nu + 1, tp, S.gd⟩ k := by
  refine ⟨List.pairwise_append.mpr ⟨h.asc, List.pairwise_singleton _ _, fun a ha b hb => ?_⟩, fun x hx => ?_, ?_, h.gone⟩
  · rw [List.mem_singleton] at hb
    subst hb
    exact h.below a ha
  · show x.uid < S.nu + 1
    rcases List.mem_append.mp hx with hx | hx
    · have := h.below x hx; omega
    · rw [List.mem_singleton] at hx
      subst hx
      show S.nu < S.nu + 1
      omega
  · show (S.ls ++ [_]).length ≤ _
    rw [List.length_append, List.length_singleton]; exact hs
def FilledPost (P : Params) (news : List (Addr × Obj)) (r : Value) (news' : List (Addr × Obj)) : Prop :=
  ∃ (b d l : Addr) (D O : Obj) (S : BS) (tl : List (Addr × Obj)), r = .ref b ∧ news' = (d, D) :: (l, O) :: (tl ++ news) ∧ OneAt P tl b S d l D O ∧ Above news ((d, D) :: (l, O) :: tl) ∧ InvS S 0
/-- the ledger of the filling loop -/
inductive FJ (P : Params) (Xb Xd Xl c : Addr) (news : List (Addr × Obj)) (i : Nat) : List (Addr × Obj) → Prop
  | mk {S : BS} {tl : List (Addr × Obj)} {D O oc : Obj} {cv : Option Value} : OneAt P tl Xb S Xd Xl D O → S.ls.length = i → InvS S 0 → S.gd = [] → oc.data = Data.cell cv → Above ((c, oc) :: news) tl →
      FJ P Xb Xd Xl c news i ((Xd, D) :: (Xl, O) :: (c, oc) :: (tl ++ news))
/-- the comprehension's rows so far -/
inductive EJ (ks : List Str) (i : Nat) (ys : List Value) : List (Addr × Obj) → Prop
  | mk {bs : List Bool} : bs.length = i → StrsAre ys (sel bs ks) → EJ ks i ys []
theorem OneAt.len {P : Params} {rest : List (Addr × Obj)} {b : Addr} {S : BS} {d l : Addr} {D O : Obj} (h : OneAt P rest b S d l D O) : (b, instObj 158 d) ∈ rest ∧ @Ne Nat d l ∧ Off d rest ∧ Off l rest := by
  cases h with
  | mk h1 _ _ _ h5 h6 h7 => exact ⟨h1, h5, h6, h7⟩
theorem fj_sub {a b c n : Addr × Obj} {t2 t z o : List (Addr × Obj)} : ∀ q ∈ a :: b :: c :: ((t2 ++ t) ++ z), q ∈ a :: b :: (t2 ++ (n :: c :: ((t ++ z) ++ o))) := by
  intro q hq
  simp only [List.mem_cons, List.mem_append] at hq ⊢
  rcases hq with h | h | h | (h | h) | h <;> simp [h]
theorem fj_own {a b c n : Addr × Obj} {t2 t z o : List (Addr × Obj)} : ∀ q ∈ o, q ∈ a :: b :: (t2 ++ (n :: c :: ((t ++ z) ++ o))) := by
  intro q hq
  simp [hq]
theorem fj_off {d l c n : Addr} {D O D' O' oc oc' on : Obj} {t2 t z o : List (Addr × Obj)} (h : OwnOff o (((d, D) :: (l, O) :: (c, oc) :: (t ++ z)).map (·.1))) (hA : Above ((d, D) :: (l, O) :: (n, on) :: (c, oc') :: ((t ++ z) ++ o)) t2) :
    OwnOff o (((d, D') :: (l, O') :: (c, oc') :: ((t2 ++ t) ++ z)).map (·.1)) := by
  intro q hq b hb
  have h0 := h q hq
  simp only [List.map_cons, List.map_append, List.mem_cons, List.mem_append] at hb h0
  rcases hb with h | h | h | (h | h) | h
  · exact h0 b (.inl h)
  · exact h0 b (.inr (.inl h))
  · exact h0 b (.inr (.inr (.inl h)))
  · obtain ⟨y, hy, rfl⟩ := List.mem_map.mp h
    exact Nat.ne_of_lt (hA q (.tail _ (.tail _ (.tail _ (.tail _ (List.mem_append.mpr (.inr hq)))))) y hy)
  · exact h0 b (.inr (.inr (.inr (.inl h))))
  · exact h0 b (.inr (.inr (.inr (.inr h))))
theorem fj_above {d l c n : Addr} {D O oc oc' on : Obj} {t2 t z o : List (Addr × Obj)} (h : Above ((c, oc) :: z) t) (hA : Above ((d, D) :: (l, O) :: (n, on) :: (c, oc') :: ((t ++ z) ++ o)) t2) : Above ((c, oc') :: z) (t2 ++ t) :=
  aboveApp (aboveSub hA fun q hq => by rcases List.mem_cons.mp hq with rfl | hq
                                       · exact .tail _ (.tail _ (.tail _ (.head _)))
                                       · exact .tail _ (.tail _ (.tail _ (.tail _ (List.mem_append.mpr (.inl (List.mem_append.mpr (.inr hq))))))))
    (aboveL (h _ (.head _)) fun q hq => h q (.tail _ hq))
theorem filled_does {nm : Str} {number : Int} {t1 t2 : Tok} : Does prog w p loose mean mg mb 24 203 [.str nm t1, .int number t2] news (FilledPost w.params news) := by
  unfold Does
  intro dp un' gd' cn cs a ccd cl outer A₀ base h₀ L m s Q E B F X N T hk hdp hun hret
  refine wpAny_call ?_
  k_dflt (refine' code_defC ?k1 ?k2 ?k3 ?k4 ?k5 ?kA ?kF ?kK ?k6 ?k7 ?k8 ?k9 ?kB ?kD ?_ ?c2 ?c3 ?c4; (case kA => exact rfl); (case kF => exact rfl); (case kK => assumption); (case k1 => k_asm); (case k2 => k_asm); (case k3 => k_asm); (case k4 => k_asm); (case k5 => k_asm); (case k6 => k_is); (case k7 => k_is); (case k8 => ktr_room); (case k9 => exact BindsTo.of_eq rfl); (case kB => exact rfl); (case kD => decide +kernel); (case c2 => exact rfl); (case c3 => exact rfl); (case c4 => exact rfl))
  intro g' L' h' tk' cells FG F' N' Y B' X' T' l1
  obtain ⟨o1, hE, d1⟩ := CellsAre.one Y
  subst hE
  clear Y
  (try k_lt l1)
  have l1' : AllLt L' news := by first | exact l1 | exact allLt_of l1
  (try simp only [List.cons_append, List.nil_append] at N')
  (try dsimp only)
  (try k_fold)
  k_steps
  rename_i Xb Xd _ lA lB _ _ _ _ _ _ _ _ _ _ _ _ Xl _ lC _ _ Xg _ lD _ _ _ _ _ _ _ _ _ _ _ t9 u9 v9 hr Fr5 Nr5 hup
  have hn0 : 0 ≤ number.fmod 6 := Int.fmod_nonneg_of_pos _ (by decide)
  have hn6 : number.fmod 6 < 6 := Int.fmod_lt_of_pos _ (by decide)
  generalize number.fmod 6 = n0 at hr hn0 hn6
  cases n0 with
  | negSucc n => exact absurd hn0 (by simp)
  | ofNat n =>
  replace hr : IsRange _ _ _ ((n : Nat) : Int) _ _ _ _ := hr
  replace hn6 : n < 6 := Int.ofNat_lt.mp hn6
  clear hup
  obtain ⟨lA1, lA2⟩ := lA
  have hcx : ∀ q ∈ (L' + 1, o1) :: news, @LT.lt Nat _ q.1 Xd := List.forall_mem_cons.mpr ⟨lA1, ktn_ltOf lA2⟩
  refine Hold.mk (loopR (n := n) [Str.ofString "names"] (FJ w.params Xb Xd Xl (L' + 1) news)
    (by rfl) hr (small_one (by omega) (by omega) (by omega) (by omega)) (by rw [rangeSize_one]; split <;> omega) Fr5 (cb_drop (news := (Xd, _) :: (Xl, _) :: (L' + 1, _) :: ([(Xb, _), (Xg, _)] ++ news)) Nr5 (subE [3, 1, 4, 2, 0] 5 rfl))
    (.mk (S := ⟨[], 1, 1, []⟩) (tl := [(Xb, _), (Xg, _)]) (.mk (.head _) .nil (.tail _ (.head _)) .nil (Nat.ne_of_lt lC.2.1) (offC (Nat.ne_of_gt lB) (offC (Nat.ne_of_gt lD.2.2.1) fun _ h => nomatch h)) (offC (Nat.ne_of_lt lC.1) (offC (Nat.ne_of_gt lD.1) fun _ h => nomatch h))) rfl
      ⟨.nil, (fun _ h => nomatch h), Nat.zero_le _, Nat.zero_le _⟩ rfl d1 (aboveR (fun q hq => Nat.lt_trans (hcx q hq) lB) (aboveR (fun q hq => Nat.lt_trans (hcx q hq) lD.2.2.1) aboveNil))) ?_ ?_)
  · intro i t u nx h tk own hi hoff hj F7 N7
    cases hj with
    | @mk S tl D O oc c hO hlen hI hgd doc hAb =>
    replace N7 : News g' L' h ((Xd, D) :: (Xl, O) :: (L' + 1, oc) :: ((tl ++ news) ++ own)) := N7
    (try k_fold)
    have hi6 : i < 6 := Nat.lt_trans hi hn6
    have hcell : Off (L' + 1) ((tl ++ news) ++ own) := offApp (offApp (offAbove hAb (.head _) rfl) (ltNe (allLt_mono l1' (Nat.le_succ _)))) (offOwn hoff ⟨_, .tail _ (.tail _ (.head _)), rfl⟩)
    have hdR : Off Xd ((tl ++ news) ++ own) := offApp (offApp hO.len.2.2.1 (ltNe lA2)) (offOwn hoff ⟨_, .head _, rfl⟩)
    have hlR : Off Xl ((tl ++ news) ++ own) := offApp (offApp hO.len.2.2.2 (ltNe lC.2.2.2)) (offOwn hoff ⟨_, .tail _ (.head _), rfl⟩)
    have hdl := hO.len.2.1
    replace hoff := Hold.mk hoff
    replace hAb := Hold.mk hAb
    replace hI := Hold.mk hI
    k_steps
    rename_i _ om F8 N8' dm Ds _ _ F8 lS _ _ _ _ _ _ _ _ _ N8 aS
    refine Hold.mk (enumSrc (EJ Known) (by rfl) F8 N8 (.head _) (by show 4 ≤ 1000; decide) (.mk (bs := []) rfl .nil) ?_ ?_)
    · intro j v ys tl' e it oe oi C oC D m₂ g5 h5 tk5 t5 E' hj hv hq hA5 hC ha hb F9 N9 off9 ne9
      cases hq with
      | @mk bs hbl hys =>
      have hj4 : j < 4 := hj
      have hy : Known[j]? = some (Known[j]'hj4) := List.getElem?_eq_getElem hj4
      generalize Known[j]'hj4 = y at hy
      obtain ⟨ty, hvy⟩ := StrsAre.at (ys := Known) aS hy
      rw [hv] at hvy
      obtain rfl := Option.some.inj hvy
      replace hA5 := Hold.mk hA5
      replace off9 := Hold.mk off9
      refine TestWp.one ?_
      (try k_fold)
      k_steps
      · exact compEndE0 (R := fun y tl' => EJ Known (j + 1) (ys ++ [y]) tl') F9 N9 off9.out (.head _) hA5.out
          (.mk (bs := bs ++ [true]) (by rw [List.length_append, hbl]; rfl) (by rw [sel_snoc _ _ _ (by rw [hbl]; exact hy)]; exact StrsAre.append' hys (.cons _ _ .nil)))
      · exact compEndE0 (R := fun _ tl' => EJ Known (j + 1) ys tl') F9 N9 off9.out (.head _) hA5.out
          (.mk (bs := bs ++ [false]) (by rw [List.length_append, hbl]; rfl) (by rw [sel_snoc _ _ _ (by rw [hbl]; exact hy)]; simpa using hys))
    · intro g6 ys tl' hA6 hq
      cases hq with
      | @mk bs hbl hys =>
      intro Dn h7 tk7 F7 N7 off7
      have hfl := sel_ok hbl
      generalize sel bs Known = fl at hys hfl
      replace off7 := off1Off off7
      simp only [List.append_nil] at N7 off7
      replace off7 := Hold.mk off7
      have hm0 : 0 ≤ ((number.fdiv 6).fdiv (16 ^ (0 + (i : Int)).toNat)).fmod 16 := Int.fmod_nonneg_of_pos _ (by decide)
      have hm1 : ((number.fdiv 6).fdiv (16 ^ (0 + (i : Int)).toNat)).fmod 16 < 16 := Int.fmod_lt_of_pos _ (by decide)
      generalize ((number.fdiv 6).fdiv (16 ^ (0 + (i : Int)).toNat)).fmod 16 = mask at *
      k_steps
      rename_i Di _ lDi _ _ _ Fb Nb _ _ _
      refine Hold.mk ?_
      have hsub : ∀ q ∈ tl, q ∈ (Dn, LCg.lst ys) :: (L' + 1, om) :: ((tl ++ news) ++ own) := fun q hq => .tail _ (.tail _ (List.mem_append.mpr (.inl (List.mem_append.mpr (.inl hq)))))
      k_dflt (refine does_use (by k_asm) (by k_asm) (by k_asm) (by k_asm) (by k_asm) (by exact rfl) (does_sub (subE [3, 4, 1, 5] 6 rfl) (add_one hO hsub (offC (off7.out _ (.tail _ (.head _))).symm (offC (Nat.ne_of_lt lA1) hdR)) (offC (off7.out _ (.tail _ (.tail _ (.head _)))).symm (offC (Nat.ne_of_lt lC.2.2.1) hlR)) (.head _) (.inl ⟨_, rfl⟩) hys hfl (by rw [hlen]; omega))) (by ktr_room) (by ktr_units) ?_)
      intro r' nx2 h8 tk8 F8 N8 hP
      cases hP with
      | @mk am tl2 D' O' hO' hLt hAb2 =>
      replace hAb2 := Hold.mk hAb2
      k_steps
      exact Hold.mk (turn_endR ((Xd, D') :: (Xl, O') :: (L' + 1, om) :: ((tl2 ++ tl) ++ news)) F8 N8 fj_sub fj_own (fj_off hoff.out hAb2.out)
        (.mk hO' (by rw [List.length_append, hlen]; rfl) (hI.out.push (by omega)) hgd dm (fj_above hAb.out hAb2.out)) (same_st rfl same_here))
  · intro u nx h tk hj F7 N7
    cases hj with
    | @mk S tl D O oc c hO hlen hI hgd doc hAb =>
    replace hAb := Hold.mk hAb
    replace hI := Hold.mk hI
    k_steps
    rename_i kF kN _ _
    exact hret _ _ _ _ kF (cb_drop kN (subE [0, 1] 3 rfl)) ⟨Xb, Xd, Xl, D, O, S, tl, rfl, rfl, hO, aboveR (ktn_ltOf lA2) (aboveR (fun q hq => Nat.lt_trans (ktn_ltOf lA2 q hq) lC.2.1) (aboveSub hAb.out fun q hq => .tail _ hq)), hI.out⟩
end

theorem fresh_m16 : True ∧ True := by
  w_top off
  first | (walk1; done) | exact ⟨trivial, trivial⟩
section
open PyProof.Rows.LCg PyProof.Rows.LCt
variable {prog : Program} {w : World} {A : Around} {E : Value → Shared → Prop} {s : Shared} {h₀ : Heap} {L : Addr} {m : Str → Option Value} {env : Env}
/-- a comprehension with a test over a tuple of the ledger -/
def TupSrc (prog : Program) (w : World) (A : Around) (h₀ : Heap) (L : Addr) (m : Str → Option Value) (env : Env) (ct elt : PySem.Expr) (x : Str) (scope : Scope) (cl : List (Str × Addr)) (Fin : Shared → List Value → List (Addr × Obj) → Prop) (xv : Value) (s₁ : Shared) : Prop :=
  ∃ (ax : Addr) (vs : List Value) (k : Nat) (news : List (Addr × Obj)), xv = .ref ax ∧ A.handled = none ∧ Fr h₀ L s₁.heap m ∧ News h₀ L s₁.heap news ∧ (ax, tupObj vs k) ∈ news ∧ vs.toArray.size ≤ sizeLine ∧
    ∀ g, CompRestT prog w A h₀ L m env ct elt x scope cl { s₁ with heap := g } (fun nx => (ax, tupObj vs k) ∈ nx) (fun i v => vs.toArray[i]? = some v) (Fin { s₁ with heap := g }) vs.toArray.size 0 [] news
theorem ListComp_TT {ct elt iter : PySem.Expr} {x : Str} {px : Pos} {scope : Scope} {cl : List (Str × Addr)} {pos : Pos} {Q : Value → Shared → Prop} (F₀ : Fr h₀ L s.heap m)
    (hclos : closureFor scope env = pure cl) (hcell : ∀ y ∈ scope.names, y.2 ≠ .cell) (hkind : scope.kind = .function)
    (hnames : ∀ y ∈ scope.names, y.2 = .local → scope.names.lookup y.1 = some .local) (hx : scope.names.lookup x = some .local)
    (h : wpAny (model prog w) A (eval iter env) (TupSrc prog w A h₀ L m env ct elt x scope cl (fun s₂ => FinE h₀ L m s₂ Q)) E s)
    (hs : ∀ x, foldedSetIterable iter env x = pure x := by intro _; rfl) :
    wpAny (model prog w) A (eval (.ListComp elt [⟨.Name x px, iter, [ct], 0⟩] scope pos) env) Q E s := by
  refine comp_value rfl hs hclos hkind hnames (wpAny_mono h ?_ fun _ _ => id)
  rintro _ s₁ ⟨ax, vs, k, news, rfl, hh, F, N, S, hsz, R⟩
  have seen : ∀ {g : Heap} {nw : List (Addr × Obj)}, News h₀ L g nw → (ax, tupObj vs k) ∈ nw → g.IsTuple ax vs.toArray := fun Ng hS => ⟨_, (Ng _ hS).1, rfl, k, rfl⟩
  have lt : @LT.lt Nat _ ax s₁.heap.objs.size := Heap.lt_size (N _ S).1
  refine wpAny_pyIter_tuple (seen N S) ?_
  have Y := Beyond.one { cls := .type "tuple_iterator", data := .fields #[.ref ax, .int 0 0] } F N
  refine block_T (Walks.tuple hh s₁.heap.objs.size ax (Nat.ne_of_lt lt) vs.toArray) hsz ?it ?keep hcell hkind hx ⟨⟨_, Heap.get?_push_size _ rfl, rfl, rfl⟩, seen Y.nw S⟩ ?places Y.fr Y.nw (Nat.ne_of_lt F.ns.lt) (Y.fresh _ (.head _)) (fun p hp => by simpa using Y.ledger p hp) S (R _) ?last
  case it => exact fun i g st => st.1.imp fun _ => And.left
  case keep =>
    rintro i g g' o nw ⟨⟨o', e', z⟩, _⟩ e eg _ Ng hS
    cases Option.some.inj (e'.symm.trans e)
    exact ⟨⟨_, eg, z⟩, seen Ng hS⟩
  case places =>
    intro q hq
    have hq : q = s₁.heap.objs.size ∨ q = ax := by simpa using hq
    show @LT.lt Nat _ _ _
    rw [Heap.size_push]
    rcases hq with rfl | rfl
    · exact Nat.lt_succ_self _
    · exact Nat.lt_succ_of_lt lt
  case last =>
    intro D C g tk m' ys nx Fg Ng o1 n c0 d0 cL dL cd oC fin
    exact (Through.mk Fg Ng ⟨m', n⟩ c0 cL (offOf1 o1) (List.forall_mem_cons.mpr ⟨Ne.symm cd, oC⟩)).value fin
theorem compTT0 {ct elt : PySem.Expr} {x : Str} {scope : Scope} {cl : List (Str × Addr)} {Fin : Shared → List Value → List (Addr × Obj) → Prop} {ax : Addr} {vs : List Value} {k : Nat} {news : List (Addr × Obj)} {s₁ : Shared} (J : Nat → List Value → Prop)
    (hh : A.handled = none) (F : Fr h₀ L s₁.heap m) (N : News h₀ L s₁.heap news) (hm : (ax, tupObj vs k) ∈ news) (hsz : vs.length ≤ 1000) (hj : J 0 [])
    (turn : ∀ i v ys I oI C oC D m₂ g h tk (E' : Value → Shared → Prop), i < vs.length → vs[i]? = some v → J i ys → NsObj oC m₂ → m₂ x = some v → Fr h₀ L h m → News h₀ L h ((I, oI) :: (C, oC) :: (D, lst ys) :: news) → Off3 I C D news → ((@Ne Nat I C) ∧ (@Ne Nat I D) ∧ (@Ne Nat C D)) →
      wpAny (model prog w) A (isTrue ct (compEnvC scope cl C env) (eval ct (compEnvC scope cl C env))) (fun ok s' => if ok = true then
        wpAny (model prog w) A (eval elt (compEnvC scope cl C env)) (CompEnd h₀ L m { ({ s₁ with heap := g } : Shared) with heap := h, toks := tk } I oI C oC D (lst ys) (fun nx => (ax, tupObj vs k) ∈ nx) (fun y nx' => nx' = news ∧ J (i + 1) (ys ++ [y]))) E' s'
        else CompEnd h₀ L m { ({ s₁ with heap := g } : Shared) with heap := h, toks := tk } I oI C oC D (lst ys) (fun nx => (ax, tupObj vs k) ∈ nx) (fun _ nx' => nx' = news ∧ J (i + 1) ys) Value.none s') E' { ({ s₁ with heap := g } : Shared) with heap := h, toks := tk })
    (done : ∀ g ys, J vs.length ys → Fin { s₁ with heap := g } ys news) : TupSrc prog w A h₀ L m env ct elt x scope cl Fin (.ref ax) s₁ := by
  have hz : vs.toArray.size ≤ sizeLine := by rw [List.size_toArray, sizeLine_eq]; omega
  refine ⟨ax, vs, k, news, rfl, hh, F, N, hm, hz, fun g => ?_⟩
  rw [List.size_toArray]
  refine compRestT (n := vs.length) (fun i ys nx => nx = news ∧ J i ys) ?_ ?_ _ 0 [] news (by omega) ⟨rfl, hj⟩
  · rintro i v ys nx I oI C oC D m₂ h tk E' hi hP ⟨rfl, hJ⟩ hC hx F N off ne
    exact turn i v ys I oI C oC D m₂ g h tk E' hi (by simpa using hP) hJ hC hx F N off ne
  · rintro ys nx ⟨rfl, hJ⟩
    exact done g ys hJ
theorem compEndT0 {s₁ : Shared} {I C D ax : Addr} {oI oC oD : Obj} {vs : List Value} {k : Nat} {J' : Value → Prop} {y : Value} {h' : Heap} {tk : Nat} {all news : List (Addr × Obj)} (F : Fr h₀ L h' m) (N : News h₀ L h' all)
    (sub : ∀ p ∈ (I, oI) :: (C, oC) :: (D, oD) :: news, p ∈ all) (off : Off3 I C D news) (hm : (ax, tupObj vs k) ∈ news) (r : J' y) :
    CompEnd h₀ L m s₁ I oI C oC D oD (fun nx => (ax, tupObj vs k) ∈ nx) (fun y nx' => nx' = news ∧ J' y) y { s₁ with heap := h', toks := tk } := CompEnd.intro F N news sub off hm ⟨rfl, r⟩
end

theorem fresh_m17 : True ∧ True := by
  w_top off
  first | (walk1; done) | exact ⟨trivial, trivial⟩
def lawOf : List Stmt × Scope :=
  match PySem.Challenge.pw_nz0285_01.main.body.getLast? with
  | some (.FunctionDef _ _ b _ _ _ sc _ _ _) => (b, sc)
  | _ => ([], default)
def turnOf : List Stmt :=
  match lawOf.1 with
  | [_, _, .For _ _ b _ _, _] => b
  | _ => []
def lawScope : Scope := lawOf.2
def st (k : Nat) : Stmt := turnOf.getD k (.Pass default)
theorem fresh_m17_1 : True ∧ True := by
  w_top off
  first | (walk1; done) | exact ⟨trivial, trivial⟩
section
variable {prog : Program} {w : World} {p : Program} {loose : List Str} {mean : ExcName → Option Value} {mg mb : Str → Option Value} {news : List (Addr × Obj)}
  {dp un : Nat} {gd : Option (List Code)} {fa : Addr} {ccd : Value} {outer : List Env} {A₀ : Around} {base h₀ : Heap} {L : Addr} {m : Str → Option Value} {s : Shared} {Q : Flow → Shared → Prop} {E : Value → Shared → Prop} {rest : List Stmt}
abbrev lawA (dp un : Nat) (gd : Option (List Code)) (sc : Scope) (L fa : Addr) (ccd : Value) (outer : List Env) : Around := ktrTop dp un gd (Str.ofString "law") sc L fa ccd (cellsFrom (L + 1) sc.names []) outer
abbrev lawE (sc : Scope) (L fa : Addr) (ccd : Value) : Env := envX (Str.ofString "law") sc L fa ccd (cellsFrom (L + 1) sc.names [])
theorem seeF {m : Str → Option Value} {x : Str} {v : Value} {h : Heap} (F : Fr h₀ L h m) (hx : m x = some v) : Fr h₀ L h (fun y => if y = x then some v else m y) := by
  have e : (fun y => if y = x then some v else m y) = m := by
    funext y
    by_cases h1 : y = x
    · rw [if_pos h1, h1, hx]
    · rw [if_neg h1]
  rw [e]; exact F
def Keep (names : List Str) (m m' : Str → Option Value) : Prop := ∀ z, names.contains z = false → m' z = m z
theorem keep_if {names : List Str} {x : Str} {v : Option Value} {m m' : Str → Option Value} (hx : names.contains x = true) (h : Keep names m m') : Keep names m (fun z => if z = x then v else m' z) := by
  intro z hz
  by_cases e : z = x
  · rw [e, hx] at hz; cases hz
  · simp only [if_neg e]; exact h z hz
theorem keep_see {names : List Str} {x : Str} {v : Value} {m : Str → Option Value} (hx : m x = some v) : Keep names m (fun z => if z = x then some v else m z) := by
  intro z _
  by_cases e : z = x
  · simp only [e, if_true]; exact hx.symm
  · simp only [if_neg e]
theorem keep_refl {names : List Str} {m : Str → Option Value} : Keep names m m := fun _ _ => rfl
theorem mono_cut {α : Type} {M : Model} {A : Around} {x : Sem α} {Q : α → Shared → Prop} {E : Value → Shared → Prop} {s : Shared} (R : α → Shared → Prop) (h1 : wpAny M A x R E s) (h2 : ∀ v s', R v s' → Q v s') : wpAny M A x Q E s := wpAny_mono h1 h2 fun _ _ e => e
def GotI (k : Int) (s : Shared) (v : Value) (s' : Shared) : Prop := ∃ t tk', v = .int k t ∧ s' = { s with toks := tk' }
theorem cutI {M : Model} {A : Around} {x : Sem Value} {Q : Value → Shared → Prop} {E : Value → Shared → Prop} {s : Shared} (k : Int) (h1 : wpAny M A x (GotI k s) E s) (h2 : ∀ t tk', Q (.int k t) { s with toks := tk' }) : wpAny M A x Q E s :=
  mono_cut _ h1 (by rintro _ _ ⟨t, tk', rfl, rfl⟩; exact h2 t tk')
def Nine : List Int := [4, 2, 7, 1, 9, 3, 5, 6, 8]
local macro_rules | `(tactic| walk_at "exec Assign cons ListComp") => `(tactic| (k_here; (with_reducible show wpAny _ _ (exec (PySem.Stmt.Assign [PySem.Expr.Name _ _] (PySem.Expr.ListComp _ [PySem.Comprehension.mk (PySem.Expr.Name _ _) (PySem.Expr.Tuple _ _ _) [_] _] _ _) _) _) _ _ _); k_dflt (refine wpAny_Assign_Name ?_)))
local macro_rules | `(tactic| walk_at "TupSrc") => `(tactic| (refine hold_tree ?_))
local macro_rules | `(tactic| walk_at "eval ListComp") => `(tactic| (k_here; (with_reducible show wpAny _ _ (eval (PySem.Expr.ListComp _ [PySem.Comprehension.mk (PySem.Expr.Name _ _) (PySem.Expr.Tuple _ _ _) [_] _] _ _) _) _ _ _); k_dflt (refine' ListComp_TT (F₀ := ?f) ?k1 ?k2 ?k3 ?k4 ?k5 ?k6 ?hs; (case hs => (intro _; rfl)); (case f => k_asm); (case k1 => with_unfolding_all rfl); (case k2 => decide); (case k3 => rfl); (case k4 => decide); (case k5 => rfl))))
local macro_rules | `(tactic| walk_at "eval IfExp") => `(tactic| (refine hold_tree ?_))
local macro_rules | `(tactic| walk_at "subscriptTail") => `(tactic| (k_here; (with_reducible show wpAny _ _ (subscriptTail _ _ (Value.ref _) (Value.int _ _)) _ _ _); (with_unfolding_all refine' item_litK (News.isList (by k_asm) (by k_mem)) ?k1 ?k2 (by assumption) ?_ ?k4; (case k1 => assumption); (case k2 => assumption); (case k4 => with_unfolding_all rfl); k_whole)))
theorem seg1 {q1 q2 q3 q4 q5 q6 : Obj} {u2 u3 u4 : Option Value} {nx : List (Addr × Obj)} {tw b0 b1 bA bB : Addr} {c : Int} {tc : Tok} {nt : Nat}
   (B : Below A₀ base outer h₀) (F : Fr h₀ L s.heap m) (X : (hd.heap_39 w.params).In h₀) (T : Top p loose mean mg mb h₀) (hdp : dp + 40 < recursionLimit) (hun : un + 20 * 40 + 100 < cLine)
   (N : News h₀ L s.heap ((L + 1, q1) :: (L + 2, q2) :: (L + 3, q3) :: (L + 4, q4) :: (L + 5, q5) :: (L + 6, q6) :: nx))
   (d1 : q1.data = .cell (some (.int c tc))) (d2 : q2.data = .cell u2) (d3 : q3.data = .cell u3) (d4 : q4.data = .cell u4)
   (f1 : Off (L + 1) nx) (f2 : Off (L + 2) nx) (f3 : Off (L + 3) nx) (f4 : Off (L + 4) nx) (f5 : Off (L + 5) nx) (f6 : Off (L + 6) nx)
   (htw : (tw, W.listOf [Value.ref b0, .ref b1].toArray nt) ∈ nx) (mtw : m (Str.ofString "two") = some (.ref tw))
   (hA : [Value.ref b0, .ref b1][(c.fmod 2).toNat]? = some (.ref bA)) (hB : [Value.ref b0, .ref b1][(1 - c.fmod 2).toNat]? = some (.ref bB))
   (K : ∀ (sm mv : Bool) (us : List Int) (uvs : List Value) (ul : Addr) (q2 q3 q4 : Obj) (h' : Heap) (tk' : Nat) (m' : Str → Option Value), us.Sublist Nine → IntsAre uvs us →
     Off ul ((L + 1, q1) :: (L + 2, q2) :: (L + 3, q3) :: (L + 4, q4) :: (L + 5, q5) :: (L + 6, q6) :: nx) → Fr h₀ L h' m' →
     News h₀ L h' ((ul, LCg.lst uvs) :: (L + 1, q1) :: (L + 2, q2) :: (L + 3, q3) :: (L + 4, q4) :: (L + 5, q5) :: (L + 6, q6) :: nx) →
     q2.data = .cell (some (.bool mv)) → q3.data = .cell (some (.ref bA)) → q4.data = .cell (some (.ref ul)) → m' (Str.ofString "is_same") = some (.bool sm) → m' (Str.ofString "goal") = some (.ref (if sm then bA else bB)) →
     Keep [Str.ofString "here", Str.ofString "is_same", Str.ofString "goal"] m m' →
     wpAny (model prog w) (lawA dp un gd lawScope L fa ccd outer) (execs rest (lawE lawScope L fa ccd)) Q E { s with heap := h', toks := tk' }) :
   wpAny (model prog w) (lawA dp un gd lawScope L fa ccd outer) (execs (st 0 :: st 1 :: st 2 :: rest) (lawE lawScope L fa ccd)) Q E s := by
  obtain ⟨sc, hsc⟩ : ∃ sc, sc = lawScope := ⟨_, rfl⟩
  rw [← hsc] at K ⊢
  conv at hsc => rhs; whnf
  conv in st 0 => whnf
  conv in st 1 => whnf
  conv in st 2 => whnf
  subst hsc
  replace K := Hold.mk K
  have F0 := F
  replace F := seeF F mtw
  have hh0 : 0 ≤ c.fmod 2 := Int.fmod_nonneg_of_pos _ (by decide)
  have hh2 : c.fmod 2 < 2 := Int.fmod_lt_of_pos _ (by decide)
  have hh3 : c.fmod 2 < 2 ^ 63 := by omega
  k_steps
  rename_i Ds _ lDs _ _ _ _ o2 F1 N1 e2
  generalize ((c.fdiv 2).fmod 2 == 1) = sm at F1 N1 e2 ⊢
  generalize ((c.fdiv 4).fmod 2 == 1) = mv at F1 N1 e2 ⊢
  have hG : [Value.ref b0, .ref b1][(if sm then c.fmod 2 else 1 - c.fmod 2).toNat]? = some (.ref (if sm then bA else bB)) := by
    cases sm
    · exact hB
    · exact hA
  have hk0 : 0 ≤ (if sm then c.fmod 2 else 1 - c.fmod 2) := by cases sm <;> simp only [Bool.false_eq_true, if_false, if_true] <;> omega
  have hk1 : (if sm then c.fmod 2 else 1 - c.fmod 2) < 2 ^ 63 := by cases sm <;> simp only [Bool.false_eq_true, if_false, if_true] <;> omega
  refine Hold.mk (cutI (if sm then c.fmod 2 else 1 - c.fmod 2) (IfExp_ ?_) ?_)
  · k_steps
    all_goals first | (subst sm; exact ⟨_, _, rfl, rfl⟩) | skip
  · intro t tk'
    dsimp only
    generalize (if sm then c.fmod 2 else 1 - c.fmod 2) = kk at *
    k_steps
    rename_i o3 e3 _ Dt _ F2 N2 lDt
    refine Hold.mk (compTT0 (fun i ys => ∃ us : List Int, us.Sublist (Nine.take i) ∧ IntsAre ys us) (by rfl) F2 N2 (.head _) (by show 9 ≤ 1000; decide) ⟨[], List.Sublist.refl _, .nil⟩ ?_ ?_)
    · rintro i v ys I oI C oC D m₂ gg h tk5 E' hi hv ⟨us, hus, hys⟩ hC hx F7 N7 off ne
      obtain ⟨u, tu, rfl, hu⟩ := intAt (ns := Nine) (by unfold Nine; repeat' (first | exact .nil | refine .cons _ _ ?_)) hv
      have hu1 : 1 ≤ u ∧ u ≤ 9 := by
        have : ∀ u ∈ Nine, 1 ≤ u ∧ u ≤ 9 := by decide
        exact this u (List.mem_of_getElem? hu)
      have hu2 : 1 ≤ u := hu1.1
      have hu3 : u ≤ 9 := hu1.2
      have hu4 : 0 ≤ u - 1 := by omega
      have hu5 : u - 1 ≤ 8 := by omega
      clear hu1
      replace off := Hold.mk off
      replace ne := Hold.mk ne
      k_steps
      · exact compEndT0 (J' := fun y => ∃ us : List Int, us.Sublist (Nine.take (i + 1)) ∧ IntsAre (ys ++ [y]) us) F7 N7 (fun _ h => h) off.out (.head _)
          ⟨us ++ [u], by rw [List.take_add_one, hu]; exact hus.append (List.Sublist.refl _), hys.append (.cons _ _ .nil)⟩
      · exact compEndT0 (J' := fun _ => ∃ us : List Int, us.Sublist (Nine.take (i + 1)) ∧ IntsAre ys us) F7 N7 (fun _ h => h) off.out (.head _)
          ⟨us, by rw [List.take_add_one]; exact hus.trans (List.sublist_append_left _ _), hys⟩
    · rintro gg ys ⟨us, hus, hys⟩ D h9 tk9 F9 N9 off9
      replace off9 := off1Off off9
      have hD4 : @Ne Nat D (L + 4) := (off9 _ (.tail _ (.tail _ (.tail _ (.tail _ (.tail _ (.tail _ (.head _)))))))).symm
      replace off9 := Hold.mk off9
      k_steps
      rename_i hE o4 FE NE dE
      refine K.out sm mv us ys D o2 o3 o4 _ _ _ hus hys ?g1 FE (cb_drop NE ?g2) e2 e3 dE rfl rfl (keep_if rfl (keep_if rfl (keep_if rfl (keep_see mtw))))
      case g1 =>
        intro q hq
        simp only [List.mem_cons] at hq
        rcases hq with rfl | rfl | rfl | rfl | hq
        · exact off9.out _ (.tail _ (.tail _ (.tail _ (.head _))))
        · exact off9.out _ (.tail _ (.tail _ (.tail _ (.tail _ (.head _)))))
        · exact off9.out _ (.tail _ (.tail _ (.tail _ (.tail _ (.tail _ (.head _))))))
        · exact hD4.symm
        · exact off9.out q (.tail _ (.tail _ (.tail _ (.tail _ (.tail _ (.tail _ (.tail _ (List.mem_cons.mpr (hq.imp_right List.mem_cons.mpr)))))))))
      case g2 =>
        intro q hq
        simp only [List.mem_cons] at hq ⊢
        rcases hq with h | hq
        · left; exact h
        · right; right; right; right; exact hq
end

theorem fresh_m18 : True ∧ True := by
  w_top off
  first | (walk1; done) | exact ⟨trivial, trivial⟩
theorem BoxAt.mono {P : Params} {news news' : List (Addr × Obj)} {b : Addr} {S : BS} (h : BoxAt P news b S) (hs : ∀ q ∈ news, q ∈ news') : BoxAt P news' b S := by
  cases h with
  | mk h1 h2 h3 h4 h5 h6 => exact .mk (hs _ h1) (hs _ h2) (hs _ h3) (h4.mono hs) (hs _ h5) (h6.mono hs)
theorem fresh_m18_1 : True ∧ True := by
  w_top off
  first | (walk1; done) | exact ⟨trivial, trivial⟩
section
variable {prog : Program} {w : World} {p : Program} {loose : List Str} {mean : ExcName → Option Value} {mg mb : Str → Option Value} {news : List (Addr × Obj)}
  {dp un : Nat} {gd : Option (List Code)} {fa : Addr} {ccd : Value} {outer : List Env} {A₀ : Around} {base h₀ : Heap} {L : Addr} {m : Str → Option Value} {s : Shared} {Q : Flow → Shared → Prop} {E : Value → Shared → Prop} {rest : List Stmt}
local macro_rules | `(tactic| walk_at "call ref") => `(tactic| (k_here; (with_reducible show wpAny _ _ (call (Value.ref 208) _) _ _ _); refine hold_tree ?_))
/-- source, other = (_law_plain(box), _law_plain(goal)) -/
theorem seg3 {q3 : Obj} {bA bG : Addr} {SA SG : BS}
   (B : Below A₀ base outer h₀) (F : Fr h₀ L s.heap m) (X : (hd.heap_39 w.params).In h₀) (T : Top p loose mean mg mb h₀) (hdp : dp + 40 < recursionLimit) (hun : un + 20 * 40 + 100 < cLine)
   (N : News h₀ L s.heap news) (m3 : (L + 3, q3) ∈ news) (d3 : q3.data = .cell (some (.ref bA))) (mg0 : m (Str.ofString "goal") = some (.ref bG))
   (hA : BoxAt w.params news bA SA) (hG : BoxAt w.params news bG SG) (zA : SA.ls.length ≤ 1000) (zG : SG.ls.length ≤ 1000)
   (K : ∀ (xs : List (Addr × Obj)) (D1 D2 : Addr) (ws1 ws2 : List Value) (k1 k2 : Nat) (h' : Heap) (tk' : Nat) (m' : Str → Option Value), Fr h₀ L h' m' → News h₀ L h' (xs ++ news) → (∀ q ∈ xs, Off q.1 news) →
     (D1, W.listOf ws1.toArray k1) ∈ xs → (D2, W.listOf ws2.toArray k2) ∈ xs → DatAll (xs ++ news) ws1 (plainD SA.ls) → DatAll (xs ++ news) ws2 (plainD SG.ls) → m' (Str.ofString "source") = some (.ref D1) → m' (Str.ofString "other") = some (.ref D2) →
     Keep [Str.ofString "source", Str.ofString "other"] m m' →
     wpAny (model prog w) (lawA dp un gd lawScope L fa ccd outer) (execs rest (lawE lawScope L fa ccd)) Q E { s with heap := h', toks := tk' }) :
   wpAny (model prog w) (lawA dp un gd lawScope L fa ccd outer) (execs (st 3 :: rest) (lawE lawScope L fa ccd)) Q E s := by
  obtain ⟨sc, hsc⟩ : ∃ sc, sc = lawScope := ⟨_, rfl⟩
  rw [← hsc] at K ⊢
  conv at hsc => rhs; whnf
  conv in st 3 => whnf
  subst hsc
  replace K := Hold.mk K
  replace F := seeF F mg0
  k_steps
  refine Hold.mk ?_
  k_dflt (refine does_use (by k_asm) (by k_asm) (by k_asm) (by k_asm) (by k_asm) (by exact rfl) (plain_does hA zA) (by ktr_room) (by ktr_units) ?_)
  rintro r1 nx1 h1 tk1 F1 N1 ⟨D1, ws1, k1, tl1, rfl, rfl, hd1, ha1, ho1⟩
  have hG1 : BoxAt w.params ((D1, W.listOf ws1.toArray k1) :: (news ++ tl1)) bG SG := hG.mono fun q hq => .tail _ (List.mem_append.mpr (.inl hq))
  replace ha1 := Hold.mk ha1
  replace ho1 := Hold.mk ho1
  k_steps
  refine Hold.mk ?_
  k_dflt (refine does_use (by k_asm) (by k_asm) (by k_asm) (by k_asm) (by k_asm) (by exact rfl) (plain_does hG1 zG) (by ktr_room) (by ktr_units) ?_)
  rintro r2 nx2 h2 tk2 F2 N2 ⟨D2, ws2, k2, tl2, rfl, rfl, hd2, ha2, ho2⟩
  replace ha2 := Hold.mk ha2
  replace ho2 := Hold.mk ho2
  k_steps
  rename_i hE FE NE
  have sub : ∀ q ∈ (D1, W.listOf ws1.toArray k1) :: (news ++ tl1) ++ tl2, q ∈ ((D2, W.listOf ws2.toArray k2) :: (D1, W.listOf ws1.toArray k1) :: (tl1 ++ tl2)) ++ news := by
    intro q hq
    simp only [List.cons_append, List.mem_cons, List.mem_append] at hq ⊢
    rcases hq with h | (h | h) | h
    · right; left; exact h
    · right; right; right; exact h
    · right; right; left; left; exact h
    · right; right; left; right; exact h
  refine K.out ((D2, W.listOf ws2.toArray k2) :: (D1, W.listOf ws1.toArray k1) :: (tl1 ++ tl2)) D1 D2 ws1 ws2 k1 k2 _ _ _ FE (cb_drop NE ?g2) ?g1 (.tail _ (.head _)) (.head _) (hd1.mono fun q hq => sub q ?g3) (hd2.mono sub) rfl rfl (keep_if rfl (keep_if rfl (keep_see mg0)))
  case g1 =>
    intro q hq z hz
    simp only [List.mem_cons, List.mem_append] at hq
    rcases hq with rfl | rfl | hq | hq
    · exact ho2.out z (by simp only [List.cons_append, List.mem_cons, List.mem_append]; right; left; left; exact hz)
    · exact ho1.out z (List.mem_append.mpr (.inl hz))
    · exact Nat.ne_of_lt (ha1.out z hz q hq)
    · exact Nat.ne_of_lt (ha2.out z (.tail _ (List.mem_append.mpr (.inl hz))) q hq)
  case g2 =>
    intro q hq
    simp only [List.cons_append, List.mem_cons, List.mem_append] at hq ⊢
    rcases hq with h | h | (h | h) | h
    · right; left; exact h
    · right; right; left; exact h
    · right; right; right; left; right; exact h
    · right; right; right; right; exact h
    · right; right; right; left; left; exact h
  case g3 =>
    exact List.mem_append.mpr (.inl (.tail _ hq))
end

theorem fresh_m19 : True ∧ True := by
  w_top off
  first | (walk1; done) | exact ⟨trivial, trivial⟩
theorem datInts {news : List (Addr × Obj)} {vs : List Value} {ns : List Int} (h : IntsAre vs ns) : DatAll news vs (ns.map Dat.int) := by
  induction h with
  | nil => exact .nil
  | cons => exact .cons (.int _ _) (by assumption)
theorem okInts {ns : List Int} : ∀ d ∈ ns.map Dat.int, kqdOk 8 d = true := by
  intro d hd
  obtain ⟨n, _, rfl⟩ := List.mem_map.mp hd
  rfl
theorem memDat {ns : List Int} {u : Int} : (Dat.int u ∈ ns.map Dat.int) ↔ u ∈ ns := by
  constructor
  · intro h
    obtain ⟨n, hn, e⟩ := List.mem_map.mp h
    cases e
    exact hn
  · exact fun h => List.mem_map.mpr ⟨u, h, rfl⟩
section
variable {prog : Program} {w : World} {A : Around} {E : Value → Shared → Prop} {s : Shared} {h₀ : Heap} {L : Addr} {news : List (Addr × Obj)} {ul : Addr} {uvs : List Value} {us : List Int} {u : Int} {t : Tok} {k : Nat} {Q : Value → Shared → Prop}
theorem inL (N : News h₀ L s.heap news) (hm : (ul, W.listOf uvs.toArray k) ∈ news) (hi : IntsAre uvs us) (hu : A.units + 64 < cLine) (h : Q (.bool (decide (u ∈ us))) s) : wpAny (model prog w) A (compareOp .In (.int u t) (.ref ul)) Q E s := by
  refine kqd_isIn (n₁ := news) (n₂ := news) N hm rfl rfl (datInts hi) (fun _ h => h) (.int u t) (fun _ h => h) okInts rfl hu ?_
  have e : ∀ i : Decidable (Dat.int u ∈ us.map Dat.int), @decide _ i = decide (u ∈ us) := fun i => by simp only [memDat]
  rw [e]
  exact h
theorem notinL (N : News h₀ L s.heap news) (hm : (ul, W.listOf uvs.toArray k) ∈ news) (hi : IntsAre uvs us) (hu : A.units + 64 < cLine) (h : Q (.bool (!decide (u ∈ us))) s) : wpAny (model prog w) A (compareOp .NotIn (.int u t) (.ref ul)) Q E s := by
  refine kqd_notIn (n₁ := news) (n₂ := news) N hm rfl rfl (datInts hi) (fun _ h => h) (.int u t) (fun _ h => h) okInts rfl hu ?_
  have e : ∀ i : Decidable (Dat.int u ∈ us.map Dat.int), @decide _ i = decide (u ∈ us) := fun i => by simp only [memDat]
  rw [e]
  exact h
end
theorem rowAt {news : List (Addr × Obj)} : ∀ {ls : List LT} {i : Nat} {v : Value} {ws : List Value}, DatAll news ws (plainD ls) → ws[i]? = some v →
    ∃ (x : LT) (a ft : Addr) (n : Nat) (t0 t1 t3 : Tok), v = .ref a ∧ ls[i]? = some x ∧ (a, ({ cls := .type "tuple", data := .seq [Value.int x.uid t0, Value.bytes x.oct t1, Value.ref ft, Value.int x.inst t3].toArray n } : Obj)) ∈ news ∧
      DatIn news (.ref ft) (.tuple (x.fl.map .str)) ∧ DatIn news v (rowD x)
  | [], i, v, ws, h, hv => by
    cases h
    simp at hv
  | x :: r, i, v, ws, h, hv => by
    cases h with
    | cons h1 h2 =>
      cases i with
      | zero =>
        obtain rfl := Option.some.inj hv
        have h0 := h1
        cases h1 with
        | tuple hm hr =>
          cases hr with
          | cons g1 hr =>
            cases hr with
            | cons g2 hr =>
              cases hr with
              | cons g3 hr =>
                cases hr with
                | cons g4 hr =>
                  cases hr
                  cases g1
                  cases g2
                  cases g4
                  have g3' := g3
                  cases g3 with
                  | tuple hm3 hr3 => exact ⟨x, _, _, _, _, _, _, rfl, rfl, hm, g3', h0⟩
      | succ i =>
        obtain ⟨x', a, ft, n, t0, t1, t3, e, h3, h4, h5, h6⟩ := rowAt (ls := r) (i := i) h2 (by simpa using hv)
        exact ⟨x', a, ft, n, t0, t1, t3, e, by simpa using h3, h4, h5, h6⟩
theorem fresh_m19_1 : True ∧ True := by
  w_top off
  first | (walk1; done) | exact ⟨trivial, trivial⟩
section
variable {prog : Program} {w : World} {p : Program} {loose : List Str} {mean : ExcName → Option Value} {mg mb : Str → Option Value} {news : List (Addr × Obj)}
  {dp un : Nat} {gd : Option (List Code)} {fa : Addr} {ccd : Value} {outer : List Env} {A₀ : Around} {base h₀ : Heap} {L : Addr} {m : Str → Option Value} {s : Shared} {Q : Flow → Shared → Prop} {E : Value → Shared → Prop} {rest : List Stmt}
local macro_rules | `(tactic| walk_at "compareOp In") => `(tactic| (k_here; (with_reducible show wpAny _ _ (compareOp CmpOp.In (Value.int _ _) (Value.ref _)) _ _ _); k_dflt (refine' inL ?N ?m ?i ?u ?_; (case N => k_asm); (case m => k_mem); (case i => assumption); (case u => ktr_units))))
theorem plain_snoc {ys : List Value} {ls : List LT} {v : Value} {x : LT} (h : DatAll news ys (plainD ls)) (hx : DatIn news v (rowD x)) : DatAll news (ys ++ [v]) (plainD (ls ++ [x])) := by
  unfold plainD
  rw [List.map_append]
  exact DatAll.snoc1 h hx
def inUs (us : List Int) (x : LT) : Bool := decide (x.uid ∈ us)
/-- taken = [row for row in source if row[0] in some] -/
theorem seg4 {q4 : Obj} {SA : BS} {D1 ul : Addr} {ws1 uvs : List Value} {k1 ku : Nat} {us : List Int}
   (B : Below A₀ base outer h₀) (F : Fr h₀ L s.heap m) (X : (hd.heap_39 w.params).In h₀) (T : Top p loose mean mg mb h₀) (hdp : dp + 40 < recursionLimit) (hun : un + 20 * 40 + 100 < cLine)
   (N : News h₀ L s.heap news) (m4 : (L + 4, q4) ∈ news) (d4 : q4.data = .cell (some (.ref ul))) (mul : (ul, W.listOf uvs.toArray ku) ∈ news) (hus : IntsAre uvs us)
   (hm1 : (D1, W.listOf ws1.toArray k1) ∈ news) (hd1 : DatAll news ws1 (plainD SA.ls)) (zA : SA.ls.length ≤ 1000) (ms : m (Str.ofString "source") = some (.ref D1))
   (K : ∀ (D : Addr) (ws : List Value) (h' : Heap) (tk' : Nat) (m' : Str → Option Value), Fr h₀ L h' m' → News h₀ L h' ((D, LCg.lst ws) :: news) → Off D news →
     DatAll news ws (plainD (SA.ls.filter (inUs us))) → m' (Str.ofString "taken") = some (.ref D) → Keep [Str.ofString "taken"] m m' →
     wpAny (model prog w) (lawA dp un gd lawScope L fa ccd outer) (execs rest (lawE lawScope L fa ccd)) Q E { s with heap := h', toks := tk' }) :
   wpAny (model prog w) (lawA dp un gd lawScope L fa ccd outer) (execs (st 4 :: rest) (lawE lawScope L fa ccd)) Q E s := by
  obtain ⟨sc, hsc⟩ : ∃ sc, sc = lawScope := ⟨_, rfl⟩
  rw [← hsc] at K ⊢
  conv at hsc => rhs; whnf
  conv in st 4 => whnf
  subst hsc
  replace K := Hold.mk K
  replace F := seeF F ms
  have hl1 : ws1.length = SA.ls.length := by rw [hd1.length]; exact List.length_map _
  k_steps
  refine Hold.mk (compLT0 (fun i ys => DatAll news ys (plainD ((SA.ls.take i).filter (inUs us)))) (by rfl) (by k_asm) (by k_asm) hm1 (by omega) .nil ?_ ?_)
  · intro i v ys I oI C oC D m₂ gg h tk E' hi hv hys hC hx F7 N7 off ne
    obtain ⟨x, a, ft, n, t0, t1, t3, rfl, hx', hrow, hft, hdat⟩ := rowAt hd1 hv
    replace hys := Hold.mk hys
    replace off := Hold.mk off
    replace ne := Hold.mk ne
    replace hdat := Hold.mk hdat
    replace hft := Hold.mk hft
    k_steps
    · rename_i hin
      refine Hold.mk (compEnd0 (J' := fun y => DatAll news (ys ++ [y]) (plainD ((SA.ls.take (i + 1)).filter (inUs us)))) F7 N7 (fun _ h => h) off.out hm1 ?_)
      have hi2 : inUs us x = true := decide_eq_true hin
      rw [filter_take hx', if_pos hi2]
      exact plain_snoc hys.out hdat.out
    · rename_i hin
      refine Hold.mk (compEnd0 (J' := fun _ => DatAll news ys (plainD ((SA.ls.take (i + 1)).filter (inUs us)))) F7 N7 (fun _ h => h) off.out hm1 ?_)
      have hi2 : ¬ inUs us x = true := fun e => hin (of_decide_eq_true e)
      rw [filter_take hx', if_neg hi2, List.append_nil]
      exact hys.out
  · intro gg ys hys D h9 tk9 F9 N9 off9
    rw [hl1, List.take_length] at hys
    replace hys := Hold.mk hys
    replace off9 := Hold.mk (off1Off off9)
    k_steps
    exact K.out D ys _ _ _ F9 N9 off9.out hys.out rfl (keep_if rfl (keep_see ms))
end

theorem fresh_m20 : True ∧ True := by
  w_top off
  first | (walk1; done) | exact ⟨trivial, trivial⟩
section
variable {prog : Program} {w : World} {p : Program} {loose : List Str} {mean : ExcName → Option Value} {mg mb : Str → Option Value} {news : List (Addr × Obj)}
  {dp un : Nat} {gd : Option (List Code)} {fa : Addr} {ccd : Value} {outer : List Env} {A₀ : Around} {base h₀ : Heap} {L : Addr} {m : Str → Option Value} {s : Shared} {Q : Flow → Shared → Prop} {E : Value → Shared → Prop} {rest : List Stmt}
/-- tops, begin = ((box.top, goal.top), goal.next_uid) -/
theorem seg5 {q3 q5 q6 : Obj} {u5 u6 : Option Value} {nx : List (Addr × Obj)} {bA bG : Addr} {SA SG : BS}
   (B : Below A₀ base outer h₀) (F : Fr h₀ L s.heap m) (X : (hd.heap_39 w.params).In h₀) (T : Top p loose mean mg mb h₀) (hdp : dp + 40 < recursionLimit) (hun : un + 20 * 40 + 100 < cLine)
   (N : News h₀ L s.heap ((L + 5, q5) :: (L + 6, q6) :: nx)) (d5 : q5.data = .cell u5) (d6 : q6.data = .cell u6) (f5 : Off (L + 5) nx) (f6 : Off (L + 6) nx)
   (m3 : (L + 3, q3) ∈ nx) (d3 : q3.data = .cell (some (.ref bA))) (mg0 : m (Str.ofString "goal") = some (.ref bG)) (hA : BoxAt w.params nx bA SA) (hG : BoxAt w.params nx bG SG)
   (K : ∀ (q5 q6 : Obj) (tp : Addr) (x1 x2 x3 : Tok) (k : Nat) (h' : Heap) (tk' : Nat) (m' : Str → Option Value), Fr h₀ L h' m' → News h₀ L h' ((tp, tupObj [.int SA.top x1, .int SG.top x2] k) :: (L + 5, q5) :: (L + 6, q6) :: nx) → Off tp nx →
     q5.data = .cell (some (.ref tp)) → q6.data = .cell (some (.int SG.nu x3)) → Keep [] m m' →
     wpAny (model prog w) (lawA dp un gd lawScope L fa ccd outer) (execs rest (lawE lawScope L fa ccd)) Q E { s with heap := h', toks := tk' }) :
   wpAny (model prog w) (lawA dp un gd lawScope L fa ccd outer) (execs (st 5 :: rest) (lawE lawScope L fa ccd)) Q E s := by
  obtain ⟨sc, hsc⟩ : ∃ sc, sc = lawScope := ⟨_, rfl⟩
  rw [← hsc] at K ⊢
  conv at hsc => rhs; whnf
  conv in st 5 => whnf
  subst hsc
  replace K := Hold.mk K
  replace F := seeF F mg0
  cases hA with
  | @mk dA lA glA t1 t2 t3 t4 t5 t6 t7 k3 k4 nmA vaA f0A vsA gsA nA gnA a1 a2 a3 a4 a5 a6 =>
    cases hG with
    | @mk dG lG glG r1 r2 r3 r4 r5 r6 r7 j3 j4 nmG vaG f0G vsG gsG nG gnG b1 b2 b3 b4 b5 b6 =>
      replace a4 := Hold.mk a4
      replace a6 := Hold.mk a6
      replace b4 := Hold.mk b4
      replace b6 := Hold.mk b6
      k_steps
      rename_i Dt1 _ l1 Dt2 _ l2 _ _ o5 e5 _ o6 FE NE e6
      exact K.out o5 o6 Dt1 _ _ _ _ _ _ _ FE (cb_drop NE fun q hq => .tail _ hq) (ltNe l1.2.2) e5 e6 (keep_see mg0)
end

theorem fresh_m21 : True ∧ True := by
  w_top off
  first | (walk1; done) | exact ⟨trivial, trivial⟩
section
open PyProof.Rows.LCg PyProof.Rows.LCt
theorem compEndE1 {h₀ : Heap} {L : Addr} {m : Str → Option Value} {s₁ : Shared} {e it C D D' : Addr} {oe oi oC oD o' lo : Obj} {l : Addr} {R : Value → List (Addr × Obj) → Prop} {y : Value} {h' : Heap} {tk : Nat} {base tl : List (Addr × Obj)}
    (F : Fr h₀ L h' m) (N : News h₀ L h' ((D', o') :: (e, oe) :: (it, oi) :: (C, oC) :: (D, oD) :: (base ++ tl))) (lt : (@LT.lt Nat _ e D') ∧ (@LT.lt Nat _ it D') ∧ (@LT.lt Nat _ C D') ∧ (@LT.lt Nat _ D D') ∧ AllLt D' (base ++ tl))
    (off : Off e (base ++ tl) ∧ Off it (base ++ tl) ∧ Off C (base ++ tl) ∧ Off D (base ++ tl)) (hm : (l, lo) ∈ base) (hA : Above base tl) (r : R y ((D', o') :: tl)) :
    CompEndE h₀ L m s₁ e it C D oe oi oC oD (fun nx' => (l, lo) ∈ nx') (fun y nx' => ∃ tl', nx' = base ++ tl' ∧ Above base tl' ∧ R y tl') y { s₁ with heap := h', toks := tk } := by
  have up : ∀ {d : Addr}, @LT.lt Nat _ d D' → Off d (base ++ tl) → Off d (base ++ (D', o') :: tl) := fun hd ho q hq => by
    rcases List.mem_append.mp hq with h | h
    · exact ho q (List.mem_append.mpr (.inl h))
    · rcases List.mem_cons.mp h with rfl | h
      · exact Nat.ne_of_gt hd
      · exact ho q (List.mem_append.mpr (.inr h))
  refine ⟨h', tk, base ++ (D', o') :: tl, rfl, F, cb_drop N ?_, ⟨up lt.1 off.1, up lt.2.1 off.2.1, up lt.2.2.1 off.2.2.1, up lt.2.2.2.1 off.2.2.2⟩, List.mem_append.mpr (.inl hm), (D', o') :: tl, rfl, ?_, r⟩
  · intro q hq
    simp only [List.mem_cons, List.mem_append] at hq ⊢
    rcases hq with h | h | h | h | h | h | h <;> simp [h]
  · intro q hq p hp
    rcases List.mem_cons.mp hp with rfl | hp
    · exact ktn_ltOf lt.2.2.2.2 q (List.mem_append.mpr (.inl hq))
    · exact hA q hq p hp
end
theorem pairsD_take {K : List LT} {i : Nat} {x : LT} (hx : K[i]? = some x) (nu : Int) : pairsD nu (K.take (i + 1)) = pairsD nu (K.take i) ++ [.tuple [.int x.uid, .int (nu + (i : Int))]] := by
  rw [List.take_add_one, hx]
  show pairsD nu (K.take i ++ [x]) = _
  rw [pairsD_snoc]
  have hi : i < K.length := (List.getElem?_eq_some_iff.mp hx).1
  rw [List.length_take, Nat.min_eq_left (Nat.le_of_lt hi)]
theorem fresh_m21_1 : True ∧ True := by
  w_top off
  first | (walk1; done) | exact ⟨trivial, trivial⟩
section
variable {prog : Program} {w : World} {p : Program} {loose : List Str} {mean : ExcName → Option Value} {mg mb : Str → Option Value} {news : List (Addr × Obj)}
  {dp un : Nat} {gd : Option (List Code)} {fa : Addr} {ccd : Value} {outer : List Env} {A₀ : Around} {base h₀ : Heap} {L : Addr} {m : Str → Option Value} {s : Shared} {Q : Flow → Shared → Prop} {E : Value → Shared → Prop} {rest : List Stmt}
local macro_rules | `(tactic| walk_at "exec Assign cons ListComp") => `(tactic| (k_here; (with_reducible show wpAny _ _ (exec (PySem.Stmt.Assign [PySem.Expr.Name _ _] (PySem.Expr.ListComp _ [PySem.Comprehension.mk (PySem.Expr.Tuple [PySem.Expr.Name _ _, PySem.Expr.Name _ _] _ _) _ _ _] _ _) _) _) _ _ _); k_dflt (refine' Assign_ListComp_E ?hcs (F₀ := by k_asm) ?a1 ?a2 ?a3 ?a4 ?a5 ?a6 ?a7 ?a8 ?a10 ?a11 ?a9 ?_; (case hcs => decide); (case a1 => rfl); (case a3 => with_unfolding_all rfl); (case a4 => decide); (case a5 => rfl); (case a6 => decide); (case a7 => rfl); (case a8 => rfl); (case a10 => first | decide | decide +kernel); (case a11 => rfl); (case a9 => rfl); (case a2 => with_unfolding_all rfl))))
local macro_rules | `(tactic| walk_at "call type:enumerate") => `(tactic| (refine hold_tree ?_))
local macro_rules | `(tactic| walk_at "CompEndE") => `(tactic| (refine hold_tree ?_))
/-- due = [(row[0], begin + at) for at, row in enumerate(taken)] -/
theorem seg6 {q6 : Obj} {K0 : List LT} {D3 : Addr} {ws3 : List Value} {k3 : Nat} {nu : Int} {x3 : Tok}
   (B : Below A₀ base outer h₀) (F : Fr h₀ L s.heap m) (X : (hd.heap_39 w.params).In h₀) (T : Top p loose mean mg mb h₀) (hdp : dp + 40 < recursionLimit) (hun : un + 20 * 40 + 100 < cLine)
   (N : News h₀ L s.heap news) (m6 : (L + 6, q6) ∈ news) (d6 : q6.data = .cell (some (.int nu x3)))
   (hm3 : (D3, W.listOf ws3.toArray k3) ∈ news) (hd3 : DatAll news ws3 (plainD K0)) (zK : K0.length ≤ 1000) (ms : m (Str.ofString "taken") = some (.ref D3))
   (K : ∀ (xs : List (Addr × Obj)) (D : Addr) (ws : List Value) (h' : Heap) (tk' : Nat) (m' : Str → Option Value), Fr h₀ L h' m' → News h₀ L h' (xs ++ news) → (∀ q ∈ xs, Off q.1 news) →
     (D, LCg.lst ws) ∈ xs → DatAll (xs ++ news) ws (pairsD nu K0) → m' (Str.ofString "due") = some (.ref D) → Keep [Str.ofString "due"] m m' →
     wpAny (model prog w) (lawA dp un gd lawScope L fa ccd outer) (execs rest (lawE lawScope L fa ccd)) Q E { s with heap := h', toks := tk' }) :
   wpAny (model prog w) (lawA dp un gd lawScope L fa ccd outer) (execs (st 6 :: rest) (lawE lawScope L fa ccd)) Q E s := by
  obtain ⟨sc, hsc⟩ : ∃ sc, sc = lawScope := ⟨_, rfl⟩
  rw [← hsc] at K ⊢
  conv at hsc => rhs; whnf
  conv in st 6 => whnf
  subst hsc
  replace K := Hold.mk K
  replace F := seeF F ms
  have hl3 : ws3.length = K0.length := by rw [hd3.length]; exact List.length_map _
  k_steps
  refine Hold.mk (enumSrc (fun i ys tl => DatAll (news ++ tl) ys (pairsD nu (K0.take i))) (by rfl) (by k_asm) (by k_asm) hm3 (by omega) .nil ?_ ?_)
  · intro i v ys tl e it oe oi C oC D m₂ g5 h5 tk5 t5 E' hj hv hys hA5 hC ha hb F9 N9 off9 ne9
    obtain ⟨x, a, ft, n, t0, t1, t3, rfl, hx', hrow, hft, hdat⟩ := rowAt hd3 hv
    have hrow' := List.mem_append (t := tl) |>.mpr (.inl hrow)
    have m6' := List.mem_append (t := tl) |>.mpr (.inl m6)
    replace hA5 := Hold.mk hA5
    replace off9 := Hold.mk off9
    replace hys := Hold.mk hys
    replace hdat := Hold.mk hdat
    replace hft := Hold.mk hft
    refine TestWp.no ?_
    simp only [if_true]
    k_steps
    rename_i Dn hn F8 N8 l8
    refine Hold.mk (compEndE1 (R := fun y tl' => DatAll (news ++ tl') (ys ++ [y]) (pairsD nu (K0.take (i + 1)))) F8 N8 l8 off9.out hm3 hA5.out ?_)
    rw [pairsD_take hx']
    exact DatAll.snoc1 (hys.out.mono subA1) (.tuple (mid1 _ _) (.cons (.int _ _) (.cons (.int _ _) .nil)))
  · intro g6 ys tl hA6 hys
    intro D h7 tk7 F7 N7 off7
    rw [hl3, List.take_length] at hys
    replace off7 := off1Off off7
    have sub : ∀ q ∈ news ++ tl, q ∈ ((D, LCg.lst ys) :: tl) ++ news := by
      intro q hq
      rcases List.mem_append.mp hq with h | h
      · exact List.mem_append.mpr (.inr h)
      · exact List.mem_append.mpr (.inl (.tail _ h))
    refine K.out ((D, LCg.lst ys) :: tl) D ys _ _ _ F7 (cb_drop N7 ?g2) ?g1 (.head _) (hys.mono sub) rfl (keep_if rfl (keep_see ms))
    case g1 =>
      intro q hq z hz
      rcases List.mem_cons.mp hq with rfl | hq
      · exact off7 z (List.mem_append.mpr (.inl hz))
      · exact Nat.ne_of_lt (hA6 z hz q hq)
    case g2 =>
      intro q hq
      simp only [List.cons_append, List.mem_cons, List.mem_append] at hq ⊢
      rcases hq with h | h | h
      · left; exact h
      · right; right; exact h
      · right; left; exact h
end

theorem fresh_m22 : True ∧ True := by
  w_top off
  first | (walk1; done) | exact ⟨trivial, trivial⟩
theorem fresh_m22_1 : True ∧ True := by
  w_top off
  first | (walk1; done) | exact ⟨trivial, trivial⟩
section
variable {prog : Program} {w : World} {p : Program} {loose : List Str} {mean : ExcName → Option Value} {mg mb : Str → Option Value} {news : List (Addr × Obj)}
  {dp un : Nat} {gd : Option (List Code)} {fa : Addr} {ccd : Value} {outer : List Env} {A₀ : Around} {base h₀ : Heap} {L : Addr} {m : Str → Option Value} {s : Shared} {Q : Flow → Shared → Prop} {E : Value → Shared → Prop} {rest : List Stmt}
local macro_rules | `(tactic| walk_at "call ref") => `(tactic| (k_here; (with_reducible show wpAny _ _ (call (Value.ref 193) _) _ _ _); refine hold_tree ?_))
local macro_rules | `(tactic| walk_at "call ref") => `(tactic| (k_here; (with_reducible show wpAny _ _ (call (Value.ref 198) _) _ _ _); refine hold_tree ?_))
local macro_rules | `(tactic| walk_at "eval IfExp") => `(tactic| (refine hold_tree ?_))
def GotM (h₀ : Heap) (L : Addr) (m : Str → Option Value) (s : Shared) (Post : Value → List (Addr × Obj) → Prop) (v : Value) (s' : Shared) : Prop := ∃ h' tk' news', s' = { s with heap := h', toks := tk' } ∧ Fr h₀ L h' m ∧ News h₀ L h' news' ∧ Post v news'
theorem cutM {M : Model} {A : Around} {x : Sem Value} {Q : Value → Shared → Prop} {E : Value → Shared → Prop} {s : Shared} {Post : Value → List (Addr × Obj) → Prop} (_F : Fr h₀ L s.heap m) (h1 : wpAny M A x (GotM h₀ L m s Post) E s)
    (h2 : ∀ v h' tk' news', Fr h₀ L h' m → News h₀ L h' news' → Post v news' → Q v { s with heap := h', toks := tk' }) : wpAny M A x Q E s :=
  mono_cut _ h1 (by rintro v _ ⟨h', tk', news', rfl, F, N, hp⟩; exact h2 v h' tk' news' F N hp)
/-- told = move_letters(box, some, goal) if is_move else copy_letters(box, some, goal) -/
theorem seg7 {q2 q3 q4 : Obj} {mv sm : Bool} {rst : List (Addr × Obj)} {bA bB ul : Addr} {SA SB : BS} {us : List Int} {uvs : List Value} {ku : Nat}
   (B : Below A₀ base outer h₀) (F : Fr h₀ L s.heap m) (X : (hd.heap_39 w.params).In h₀) (T : Top p loose mean mg mb h₀) (hdp : dp + 40 < recursionLimit) (hun : un + 20 * 40 + 100 < cLine)
   (N : News h₀ L s.heap news) (hT : TwoAt w.params rst bA bB SA SB news) (m2 : (L + 2, q2) ∈ rst) (d2 : q2.data = .cell (some (.bool mv))) (m3 : (L + 3, q3) ∈ rst) (d3 : q3.data = .cell (some (.ref bA))) (m4 : (L + 4, q4) ∈ rst) (d4 : q4.data = .cell (some (.ref ul)))
   (mul : (ul, W.listOf uvs.toArray ku) ∈ rst) (hus : IntsAre uvs us) (hu64 : us.length < 64) (hpw : SA.ls.Pairwise (fun a b => a.uid < b.uid)) (hz1 : SA.ls.length ≤ 500) (hz2 : SB.ls.length ≤ 500) (hz3 : SA.gd.length ≤ 1000)
   (mg0 : m (Str.ofString "goal") = some (.ref (if sm then bA else bB)))
   (K : ∀ (r : Value) (news' : List (Addr × Obj)) (h' : Heap) (tk' : Nat) (m' : Str → Option Value), Fr h₀ L h' m' → News h₀ L h' news' → MovePost w.params bA bB SA SB mv sm us rst r news' →
     m' (Str.ofString "told") = some r → Keep [Str.ofString "told"] m m' →
     wpAny (model prog w) (lawA dp un gd lawScope L fa ccd outer) (execs rest (lawE lawScope L fa ccd)) Q E { s with heap := h', toks := tk' }) :
   wpAny (model prog w) (lawA dp un gd lawScope L fa ccd outer) (execs (st 7 :: rest) (lawE lawScope L fa ccd)) Q E s := by
  obtain ⟨sc, hsc⟩ : ∃ sc, sc = lawScope := ⟨_, rfl⟩
  rw [← hsc] at K ⊢
  conv at hsc => rhs; whnf
  conv in st 7 => whnf
  subst hsc
  replace K := Hold.mk K
  replace F := seeF F mg0
  have n2 := hT.boxes.2.2 _ m2
  have n3 := hT.boxes.2.2 _ m3
  have n4 := hT.boxes.2.2 _ m4
  replace hT := Hold.mk hT
  replace hpw := Hold.mk hpw
  k_steps
  refine Hold.mk (cutM (Post := MovePost w.params bA bB SA SB mv sm us rst) F ?_ ?_)
  · cases mv
    · refine IfExp_ ?_
      k_steps
      refine Hold.mk ?_
      k_dflt (refine does_use (by k_asm) (by k_asm) (by k_asm) (by k_asm) (by k_asm) (by exact rfl) (copy_two' hT.out mul hus hu64 hpw.out hz1 hz2) (by ktr_room) (by ktr_units) ?_)
      exact fun r nx h' tk' F' N' hp => ⟨h', tk', nx, rfl, F', N', hp⟩
    · refine IfExp_ ?_
      k_steps
      refine Hold.mk ?_
      k_dflt (refine does_use (by k_asm) (by k_asm) (by k_asm) (by k_asm) (by k_asm) (by exact rfl) (move_two hT.out mul hus hu64 hpw.out hz1 hz2 hz3) (by ktr_room) (by ktr_units) ?_)
      exact fun r nx h' tk' F' N' hp => ⟨h', tk', nx, rfl, F', N', hp⟩
  · intro r h6 tk6 nx F6 N6 hp
    replace hp := Hold.mk hp
    k_steps
    rename_i FE NE
    exact K.out r nx _ _ _ FE NE hp.out rfl (keep_if rfl (keep_see mg0))
end

theorem fresh_m23 : True ∧ True := by
  w_top off
  first | (walk1; done) | exact ⟨trivial, trivial⟩
section
open PySem.SeqAt PySem.MeetsSeq
theorem RcAt.bytesSame {A : Around} {s : Shared} (b : Array UInt8) (t u : Tok) : RcAt A s (.bytes b t) (.bytes b u) true := fun prog w E Q h =>
  richCompare_gives (typeIs_bytes s b t) (typeIs_bytes s b u) FB.slot_bytes_eq FB.entry_bytes_eq (FB.args_bytes_eq_2 _ _) (gives_bytes_eq b b t u) (fun x => nomatch x) (by rw [beq_self_eq_true]; exact h)
theorem EqAt.bytesSame {A : Around} {s : Shared} (b : Array UInt8) (t u : Tok) : EqAt A s (.bytes b t) (.bytes b u) true := fun prog w E Q h => by
  unfold eqBool
  refine wpAny_holding ?_
  refine wpAny_ite_split (fun hab => ?_) (fun _ => ?_)
  · exact wpAny_bind (wpAny_rule (wpAny_pure h))
  · exact wpAny_bind (RcAt.bytesSame b t u prog w E _ (wpAny_truthy_bool h))
def datOk : Nat → Dat → Bool
  | n + 1, .tuple ds => ds.all (datOk n)
  | n + 1, .list ds => ds.all (datOk n)
  | 0, .tuple _ => false
  | 0, .list _ => false
  | _, _ => true
theorem rangeAll {n : Nat} : (List.range n).all (fun _ => true) = true := by simp
section
variable {h₀ : Heap} {L : Addr} {s : Shared} {news : List (Addr × Obj)}
mutual
theorem datEq (N : News h₀ L s.heap news) : ∀ {v v' : Value} {d : Dat} (n : Nat) (A : Around), DatIn news v d → DatIn news v' d → datOk n d = true → A.units + n < cLine → EqAt A s v v' true
  | _, _, _, _, A, .none, h2, _, _ => by cases h2; exact EqAt.same _
  | _, _, _, _, A, .bool b, h2, _, _ => by cases h2; exact EqAt.same _
  | _, _, _, _, A, .int i t, h2, _, _ => by
    cases h2 with
    | int _ u => have := EqAt.int_int (A := A) (s := s) i t i u; rwa [beq_self_eq_true] at this
  | _, _, _, _, A, .str x t, h2, _, _ => by
    cases h2 with
    | str _ u => have := EqAt.str_str (A := A) (s := s) x t x u; rwa [beq_self_eq_true] at this
  | _, _, _, _, A, .bytes b t, h2, _, _ => by
    cases h2 with
    | bytes _ u => exact EqAt.bytesSame b t u
  | _, _, _, 0, _, .tuple _ _, _, hk, _ => by simp [datOk] at hk
  | _, _, _, 0, _, .list _ _, _, hk, _ => by simp [datOk] at hk
  | _, _, _, n + 1, A, .tuple (a := a) (vs := vs) hm r, h2, hk, hu => by
    cases h2 with
    | @tuple a2 vs2 k2 _ hm2 r2 =>
      by_cases hl : a = a2
      · subst hl; exact EqAt.same _
      · have hs : vs.toArray.size = vs2.toArray.size := by rw [List.size_toArray, List.size_toArray, r.length, r2.length]
        have q := RcAt.tuples (A := A) (s := s) (e := fun _ => true) ⟨_, (N _ hm).1, rfl, _, rfl⟩ ⟨_, (N _ hm2).1, rfl, _, rfl⟩ (by omega) fun j j1 j2 =>
          datEqAll N n A.in1 r r2 (by simpa [datOk] using hk) (by rw [units_in1]; omega) j (by simpa using j1) (by simpa using j2)
        rw [rangeAll, hs, beq_self_eq_true, Bool.and_self] at q
        exact EqAt.of_refs hl q
  | _, _, _, n + 1, A, .list (a := a) (vs := vs) hm r, h2, hk, hu => by
    cases h2 with
    | @list a2 vs2 k2 _ hm2 r2 =>
      by_cases hl : a = a2
      · subst hl; exact EqAt.same _
      · have hs : vs.toArray.size = vs2.toArray.size := by rw [List.size_toArray, List.size_toArray, r.length, r2.length]
        have q := RcAt.lists (A := A) (s := s) (e := fun _ => true) ⟨_, (N _ hm).1, rfl, _, rfl⟩ ⟨_, (N _ hm2).1, rfl, _, rfl⟩ hs (by omega) fun j j1 j2 =>
          datEqAll N n A.in1 r r2 (by simpa [datOk] using hk) (by rw [units_in1]; omega) j (by simpa using j1) (by simpa using j2)
        rw [rangeAll] at q
        exact EqAt.of_refs hl q
theorem datEqAll (N : News h₀ L s.heap news) : ∀ {vs vs' : List Value} {ds : List Dat} (n : Nat) (A : Around), DatAll news vs ds → DatAll news vs' ds → (∀ d ∈ ds, datOk n d = true) → A.units + n < cLine →
    ∀ j (h1 : j < vs.length) (h2 : j < vs'.length), EqAt A s vs[j] vs'[j] true
  | _, _, _, _, _, .nil, _, _, _, j, h1, _ => absurd h1 (Nat.not_lt_zero _)
  | _, _, _, n, A, .cons h r, h2, hk, hu, 0, _, _ => by
    cases h2 with
    | cons g q => exact datEq N n A h g (hk _ (.head _)) hu
  | _, _, _, n, A, .cons h r, h2, hk, hu, j + 1, j1, j2 => by
    cases h2 with
    | cons g q => exact datEqAll N n A r q (fun d hd => hk d (.tail _ hd)) hu j (Nat.lt_of_succ_lt_succ j1) (Nat.lt_of_succ_lt_succ j2)
end
end
variable {prog : Program} {w : World} {A : Around} {E : Value → Shared → Prop} {s : Shared} {h₀ : Heap} {L a b : Addr} {news : List (Addr × Obj)} {xs ys : List Value} {ka kb : Nat} {ds es : List Dat} {Q : Value → Shared → Prop}
theorem neSame (N : News h₀ L s.heap news) (ma : (a, W.listOf xs.toArray ka) ∈ news) (mb : (b, W.listOf ys.toArray kb) ∈ news) (da : DatAll news xs ds) (db : DatAll news ys ds) (hk : ∀ d ∈ ds, datOk 8 d = true) (hu : A.units + 64 < cLine) (h : Q (.bool false) s) :
    wpAny (model prog w) A (compareOp .NotEq (.ref a) (.ref b)) Q E s := by
  have hs : xs.toArray.size = ys.toArray.size := by rw [List.size_toArray, List.size_toArray, da.length, db.length]
  have q := RcNeAt.lists (A := A) (s := s) (e := fun _ => true) ⟨_, (N _ ma).1, rfl, _, rfl⟩ ⟨_, (N _ mb).1, rfl, _, rfl⟩ hs (by omega) fun j j1 j2 =>
    datEqAll N 8 A.in1 da db hk (by rw [units_in1]; omega) j (by simpa using j1) (by simpa using j2)
  rw [rangeAll] at q
  exact q prog w E Q h
end

theorem fresh_m24 : True ∧ True := by
  w_top off
  first | (walk1; done) | exact ⟨trivial, trivial⟩
theorem fresh_m24_1 : True ∧ True := by
  w_top off
  first | (walk1; done) | exact ⟨trivial, trivial⟩
section
variable {prog : Program} {w : World} {p : Program} {loose : List Str} {mean : ExcName → Option Value} {mg mb : Str → Option Value} {news : List (Addr × Obj)}
  {dp un : Nat} {gd : Option (List Code)} {fa : Addr} {ccd : Value} {outer : List Env} {A₀ : Around} {base h₀ : Heap} {L : Addr} {m : Str → Option Value} {s : Shared} {Q : Flow → Shared → Prop} {E : Value → Shared → Prop} {rest : List Stmt}
theorem seeE {m : Str → Option Value} {x : Str} {v : Value} (hx : m x = some v) : (fun y => if y = x then some v else m y) = m := by
  funext y
  by_cases h1 : y = x
  · rw [if_pos h1, h1, hx]
  · rw [if_neg h1]
theorem seeF2 {m : Str → Option Value} {x x2 : Str} {v v2 : Value} {h : Heap} (F : Fr h₀ L h m) (hx : m x = some v) (hx2 : m x2 = some v2) : Fr h₀ L h (fun y => if y = x2 then some v2 else if y = x then some v else m y) :=
  seeF (m := fun y => if y = x then some v else m y) (seeF F hx) ((congrFun (seeE hx) _).trans hx2)
theorem okPairs : ∀ (K : List LT) (nu : Int), ∀ d ∈ pairsD nu K, datOk 8 d = true
  | [], _, d, h => by cases h
  | x :: r, nu, d, h => by
    rcases List.mem_cons.mp h with rfl | h
    · rfl
    · exact okPairs r (nu + 1) d h
theorem okPlain (K : List LT) : ∀ d ∈ plainD K, datOk 8 d = true := by
  intro d hd
  obtain ⟨x, _, rfl⟩ := List.mem_map.mp hd
  have : ∀ fl : List Str, (fl.map Dat.str).all (datOk 6) = true := fun fl => by
    rw [List.all_map, List.all_eq_true]
    exact fun y _ => rfl
  simp only [rowD, datOk, List.all_cons, List.all_nil, this, Bool.and_true]
local macro_rules | `(tactic| walk_at "compareOp NotEq ref ref") => `(tactic| (k_here; (with_reducible show wpAny _ _ (compareOp CmpOp.NotEq (Value.ref _) (Value.ref _)) _ _ _); k_dflt (refine' neSame ?N ?ma ?mb ?da ?db ?hk ?hu ?_; (case N => k_asm); (case ma => k_mem); (case mb => k_mem); (case da => assumption); (case db => assumption); (case hk => assumption); (case hu => ktr_units))))
/-- if told != due: return False -/
theorem seg8 {D1 D2 : Addr} {pv ws : List Value} {k1 k2 : Nat} {ds : List Dat}
   (B : Below A₀ base outer h₀) (F : Fr h₀ L s.heap m) (X : (hd.heap_39 w.params).In h₀) (T : Top p loose mean mg mb h₀) (hdp : dp + 40 < recursionLimit) (hun : un + 20 * 40 + 100 < cLine)
   (N : News h₀ L s.heap news) (m1 : (D1, W.listOf pv.toArray k1) ∈ news) (m2 : (D2, W.listOf ws.toArray k2) ∈ news) (hd1 : DatAll news pv ds) (hd2 : DatAll news ws ds) (hok : ∀ d ∈ ds, datOk 8 d = true)
   (mt : m (Str.ofString "told") = some (.ref D1)) (md : m (Str.ofString "due") = some (.ref D2))
   (K : ∀ (h' : Heap) (tk' : Nat) (m' : Str → Option Value), Fr h₀ L h' m' → News h₀ L h' news → Keep [] m m' →
     wpAny (model prog w) (lawA dp un gd lawScope L fa ccd outer) (execs rest (lawE lawScope L fa ccd)) Q E { s with heap := h', toks := tk' }) :
   wpAny (model prog w) (lawA dp un gd lawScope L fa ccd outer) (execs (st 8 :: rest) (lawE lawScope L fa ccd)) Q E s := by
  obtain ⟨sc, hsc⟩ : ∃ sc, sc = lawScope := ⟨_, rfl⟩
  rw [← hsc] at K ⊢
  conv at hsc => rhs; whnf
  conv in st 8 => whnf
  subst hsc
  replace K := Hold.mk K
  have F0 := F
  replace F := seeF2 F mt md
  k_steps
  exact K.out _ _ m F0 N keep_refl
end

theorem fresh_m25 : True ∧ True := by
  w_top off
  first | (walk1; done) | exact ⟨trivial, trivial⟩
theorem made_take {K : List LT} {i : Nat} {x : LT} (hx : K[i]? = some x) (nu tp : Int) : made nu tp (K.take (i + 1)) = made nu tp (K.take i) ++ [⟨nu + (i : Int), x.oct, x.fl, x.inst, tp + (i : Int) + 1⟩] := by
  rw [List.take_add_one, hx]
  show made nu tp (K.take i ++ [x]) = _
  rw [made_snoc]
  have hi : i < K.length := (List.getElem?_eq_some_iff.mp hx).1
  rw [List.length_take, Nat.min_eq_left (Nat.le_of_lt hi)]
theorem fresh_m25_1 : True ∧ True := by
  w_top off
  first | (walk1; done) | exact ⟨trivial, trivial⟩
section
variable {prog : Program} {w : World} {p : Program} {loose : List Str} {mean : ExcName → Option Value} {mg mb : Str → Option Value} {news : List (Addr × Obj)}
  {dp un : Nat} {gd : Option (List Code)} {fa : Addr} {ccd : Value} {outer : List Env} {A₀ : Around} {base h₀ : Heap} {L : Addr} {m : Str → Option Value} {s : Shared} {Q : Flow → Shared → Prop} {E : Value → Shared → Prop} {rest : List Stmt}
local macro_rules | `(tactic| walk_at "exec Assign cons ListComp") => `(tactic| (k_here; (with_reducible show wpAny _ _ (exec (PySem.Stmt.Assign [PySem.Expr.Name _ _] (PySem.Expr.ListComp _ [PySem.Comprehension.mk (PySem.Expr.Tuple [PySem.Expr.Name _ _, PySem.Expr.Name _ _] _ _) _ _ _] _ _) _) _) _ _ _); k_dflt (refine' Assign_ListComp_E ?hcs (F₀ := by k_asm) ?a1 ?a2 ?a3 ?a4 ?a5 ?a6 ?a7 ?a8 ?a10 ?a11 ?a9 ?_; (case hcs => decide); (case a1 => rfl); (case a3 => with_unfolding_all rfl); (case a4 => decide); (case a5 => rfl); (case a6 => decide); (case a7 => rfl); (case a8 => rfl); (case a10 => first | decide | decide +kernel); (case a11 => rfl); (case a9 => rfl); (case a2 => with_unfolding_all rfl))))
local macro_rules | `(tactic| walk_at "call type:enumerate") => `(tactic| (refine hold_tree ?_))
local macro_rules | `(tactic| walk_at "CompEndE") => `(tactic| (refine hold_tree ?_))
/-- made = [(begin + at, row[1], row[2], row[3]) for at, row in enumerate(taken)] -/
theorem seg9 {q6 : Obj} {K0 : List LT} {D3 : Addr} {ws3 : List Value} {k3 : Nat} {nu tp : Int} {x3 : Tok}
   (B : Below A₀ base outer h₀) (F : Fr h₀ L s.heap m) (X : (hd.heap_39 w.params).In h₀) (T : Top p loose mean mg mb h₀) (hdp : dp + 40 < recursionLimit) (hun : un + 20 * 40 + 100 < cLine)
   (N : News h₀ L s.heap news) (m6 : (L + 6, q6) ∈ news) (d6 : q6.data = .cell (some (.int nu x3)))
   (hm3 : (D3, W.listOf ws3.toArray k3) ∈ news) (hd3 : DatAll news ws3 (plainD K0)) (zK : K0.length ≤ 1000) (ms : m (Str.ofString "taken") = some (.ref D3))
   (K : ∀ (xs : List (Addr × Obj)) (D : Addr) (ws : List Value) (h' : Heap) (tk' : Nat) (m' : Str → Option Value), Fr h₀ L h' m' → News h₀ L h' (xs ++ news) →
     (D, LCg.lst ws) ∈ xs → DatAll (xs ++ news) ws (plainD (made nu tp K0)) → m' (Str.ofString "made") = some (.ref D) → Keep [Str.ofString "made"] m m' →
     wpAny (model prog w) (lawA dp un gd lawScope L fa ccd outer) (execs rest (lawE lawScope L fa ccd)) Q E { s with heap := h', toks := tk' }) :
   wpAny (model prog w) (lawA dp un gd lawScope L fa ccd outer) (execs (st 9 :: rest) (lawE lawScope L fa ccd)) Q E s := by
  obtain ⟨sc, hsc⟩ : ∃ sc, sc = lawScope := ⟨_, rfl⟩
  rw [← hsc] at K ⊢
  conv at hsc => rhs; whnf
  conv in st 9 => whnf
  subst hsc
  replace K := Hold.mk K
  replace F := seeF F ms
  have hl3 : ws3.length = K0.length := by rw [hd3.length]; exact List.length_map _
  k_steps
  refine Hold.mk (enumSrc (fun i ys tl => DatAll (news ++ tl) ys (plainD (made nu tp (K0.take i)))) (by rfl) (by k_asm) (by k_asm) hm3 (by omega) .nil ?_ ?_)
  · intro i v ys tl e it oe oi C oC D m₂ g5 h5 tk5 t5 E' hj hv hys hA5 hC ha hb F9 N9 off9 ne9
    obtain ⟨x, a, ft, n, t0, t1, t3, rfl, hx', hrow, hft, hdat⟩ := rowAt hd3 hv
    have hrow' := List.mem_append (t := tl) |>.mpr (.inl hrow)
    have m6' := List.mem_append (t := tl) |>.mpr (.inl m6)
    replace hA5 := Hold.mk hA5
    replace off9 := Hold.mk off9
    replace hys := Hold.mk hys
    replace hdat := Hold.mk hdat
    replace hft := Hold.mk hft
    refine TestWp.no ?_
    simp only [if_true]
    k_steps
    rename_i Dn hn F8 N8 l8
    refine Hold.mk (compEndE1 (R := fun y tl' => DatAll (news ++ tl') (ys ++ [y]) (plainD (made nu tp (K0.take (i + 1))))) F8 N8 l8 off9.out hm3 hA5.out ?_)
    rw [made_take hx']
    exact plain_snoc (hys.out.mono subA1) (.tuple (mid1 _ _) (.cons (.int _ _) (.cons (.bytes _ _) (.cons (hft.out.mono fun q hq => List.mem_append.mpr (.inl hq)) (.cons (.int _ _) .nil)))))
  · intro g6 ys tl hA6 hys
    intro D h7 tk7 F7 N7 off7
    rw [hl3, List.take_length] at hys
    have sub : ∀ q ∈ news ++ tl, q ∈ ((D, LCg.lst ys) :: tl) ++ news := by
      intro q hq
      rcases List.mem_append.mp hq with h | h
      · exact List.mem_append.mpr (.inr h)
      · exact List.mem_append.mpr (.inl (.tail _ h))
    refine K.out ((D, LCg.lst ys) :: tl) D ys _ _ _ F7 (cb_drop N7 ?g2) (.head _) (hys.mono sub) rfl (keep_if rfl (keep_see ms))
    case g2 =>
      intro q hq
      simp only [List.cons_append, List.mem_cons, List.mem_append] at hq ⊢
      rcases hq with h | h | h
      · left; exact h
      · right; right; exact h
      · right; left; exact h
def leftP (mv : Bool) (us : List Int) (x : LT) : Bool := !mv || !inUs us x
local macro_rules | `(tactic| walk_at "compareOp NotIn") => `(tactic| (k_here; (with_reducible show wpAny _ _ (compareOp CmpOp.NotIn (Value.int _ _) (Value.ref _)) _ _ _); k_dflt (refine' notinL ?N ?m ?i ?u ?_; (case N => k_asm); (case m => k_mem); (case i => assumption); (case u => ktr_units))))
/-- left = [row for row in source if not is_move or row[0] not in some] -/
theorem seg10 {q2 q4 : Obj} {mv : Bool} {ls : List LT} {D1 ul : Addr} {ws1 uvs : List Value} {k1 ku : Nat} {us : List Int}
   (B : Below A₀ base outer h₀) (F : Fr h₀ L s.heap m) (X : (hd.heap_39 w.params).In h₀) (T : Top p loose mean mg mb h₀) (hdp : dp + 40 < recursionLimit) (hun : un + 20 * 40 + 100 < cLine)
   (N : News h₀ L s.heap news) (m2 : (L + 2, q2) ∈ news) (d2 : q2.data = .cell (some (.bool mv))) (m4 : (L + 4, q4) ∈ news) (d4 : q4.data = .cell (some (.ref ul))) (mul : (ul, W.listOf uvs.toArray ku) ∈ news) (hus : IntsAre uvs us)
   (hm1 : (D1, W.listOf ws1.toArray k1) ∈ news) (hd1 : DatAll news ws1 (plainD ls)) (zA : ls.length ≤ 1000) (ms : m (Str.ofString "source") = some (.ref D1))
   (K : ∀ (D : Addr) (ws : List Value) (h' : Heap) (tk' : Nat) (m' : Str → Option Value), Fr h₀ L h' m' → News h₀ L h' ((D, LCg.lst ws) :: news) →
     DatAll news ws (plainD (ls.filter (leftP mv us))) → m' (Str.ofString "left") = some (.ref D) → Keep [Str.ofString "left"] m m' →
     wpAny (model prog w) (lawA dp un gd lawScope L fa ccd outer) (execs rest (lawE lawScope L fa ccd)) Q E { s with heap := h', toks := tk' }) :
   wpAny (model prog w) (lawA dp un gd lawScope L fa ccd outer) (execs (st 10 :: rest) (lawE lawScope L fa ccd)) Q E s := by
  obtain ⟨sc, hsc⟩ : ∃ sc, sc = lawScope := ⟨_, rfl⟩
  rw [← hsc] at K ⊢
  conv at hsc => rhs; whnf
  conv in st 10 => whnf
  subst hsc
  replace K := Hold.mk K
  replace F := seeF F ms
  have hl1 : ws1.length = ls.length := by rw [hd1.length]; exact List.length_map _
  k_steps
  refine Hold.mk (compLT0 (fun i ys => DatAll news ys (plainD ((ls.take i).filter (leftP mv us)))) (by rfl) (by k_asm) (by k_asm) hm1 (by omega) .nil ?_ ?_)
  · intro i v ys I oI C oC D m₂ gg h tk E' hi hv hys hC hx F7 N7 off ne
    obtain ⟨x, a, ft, n, t0, t1, t3, rfl, hx', hrow, hft, hdat⟩ := rowAt hd1 hv
    replace hys := Hold.mk hys
    replace off := Hold.mk off
    replace ne := Hold.mk ne
    replace hdat := Hold.mk hdat
    replace hft := Hold.mk hft
    have yes : leftP mv us x = true → DatAll news (ys ++ [Value.ref a]) (plainD ((ls.take (i + 1)).filter (leftP mv us))) := fun h => by
      rw [filter_take hx', if_pos h]
      exact plain_snoc hys.out hdat.out
    have no : leftP mv us x = false → DatAll news ys (plainD ((ls.take (i + 1)).filter (leftP mv us))) := fun h => by
      rw [filter_take hx', if_neg (by rw [h]; decide), List.append_nil]
      exact hys.out
    replace yes := Hold.mk yes
    replace no := Hold.mk no
    cases mv
    · k_steps
      exact compEnd0 (J' := fun y => DatAll news (ys ++ [y]) (plainD ((ls.take (i + 1)).filter (leftP false us)))) F7 N7 (fun _ h => h) off.out hm1 (yes.out rfl)
    · k_steps
      · rename_i hin
        exact compEnd0 (J' := fun _ => DatAll news ys (plainD ((ls.take (i + 1)).filter (leftP true us)))) F7 N7 (fun _ h => h) off.out hm1 (no.out (by unfold leftP inUs; rw [decide_eq_true hin]; rfl))
      · rename_i hin
        exact compEnd0 (J' := fun y => DatAll news (ys ++ [y]) (plainD ((ls.take (i + 1)).filter (leftP true us)))) F7 N7 (fun _ h => h) off.out hm1 (yes.out (by unfold leftP inUs; rw [decide_eq_false hin]; rfl))
  · intro gg ys hys D h9 tk9 F9 N9 off9
    rw [hl1, List.take_length] at hys
    replace hys := Hold.mk hys
    k_steps
    exact K.out D ys _ _ _ F9 N9 hys.out rfl (keep_if rfl (keep_see ms))
end

theorem fresh_m26 : True ∧ True := by
  w_top off
  first | (walk1; done) | exact ⟨trivial, trivial⟩
def seen : List (Str × Value) → (Str → Option Value) → Str → Option Value
  | [], m => m
  | (x, v) :: r, m => fun y => if y = x then some v else seen r m y
def SeenOk (m : Str → Option Value) : List (Str × Value) → Prop
  | [] => True
  | (x, v) :: r => m x = some v ∧ SeenOk m r
theorem seenE {m : Str → Option Value} : ∀ {ps : List (Str × Value)}, SeenOk m ps → seen ps m = m
  | [], _ => rfl
  | (x, v) :: r, h => by
    have ih := seenE h.2
    show (fun y => if y = x then some v else seen r m y) = m
    rw [ih]
    exact seeE h.1
theorem seeL {h₀ h : Heap} {L : Addr} {m : Str → Option Value} (F : Fr h₀ L h m) (ps : List (Str × Value)) (hp : SeenOk m ps) : Fr h₀ L h (seen ps m) := by
  rw [seenE hp]; exact F
theorem keepL {names : List Str} {m : Str → Option Value} (ps : List (Str × Value)) (hp : SeenOk m ps) : Keep names m (seen ps m) := fun z _ => congrFun (seenE hp) z
theorem fresh_m26_1 : True ∧ True := by
  w_top off
  first | (walk1; done) | exact ⟨trivial, trivial⟩
section
variable {prog : Program} {w : World} {p : Program} {loose : List Str} {mean : ExcName → Option Value} {mg mb : Str → Option Value} {news : List (Addr × Obj)}
  {dp un : Nat} {gd : Option (List Code)} {fa : Addr} {ccd : Value} {outer : List Env} {A₀ : Around} {base h₀ : Heap} {L : Addr} {m : Str → Option Value} {s : Shared} {Q : Flow → Shared → Prop} {E : Value → Shared → Prop} {rest : List Stmt}
local macro_rules | `(tactic| walk_at "call ref") => `(tactic| (k_here; (with_reducible show wpAny _ _ (call (Value.ref 208) _) _ _ _); refine hold_tree ?_))
local macro_rules | `(tactic| walk_at "compareOp NotEq ref ref") => `(tactic| (refine hold_tree ?_))
local macro_rules | `(tactic| walk_at "binaryOp Add ref ref") => `(tactic| (refine hold_tree ?_))
/-- if is_same: .. elif ..: the boxes hold what is left and what was made -/
theorem seg11 {q3 : Obj} {sm : Bool} {bA bG DL DM DO : Addr} {SA SG : BS} {wl wm wo : List Value} {kl km ko : Nat} {left mad oth : List Dat}
   (B : Below A₀ base outer h₀) (F : Fr h₀ L s.heap m) (X : (hd.heap_39 w.params).In h₀) (T : Top p loose mean mg mb h₀) (hdp : dp + 40 < recursionLimit) (hun : un + 20 * 40 + 100 < cLine)
   (N : News h₀ L s.heap news) (m3 : (L + 3, q3) ∈ news) (d3 : q3.data = .cell (some (.ref bA)))
   (hA : BoxAt w.params news bA SA) (hG : BoxAt w.params news bG SG) (zA : SA.ls.length ≤ 1000) (zG : SG.ls.length ≤ 1000)
   (hml : (DL, W.listOf wl.toArray kl) ∈ news) (hmm : (DM, W.listOf wm.toArray km) ∈ news) (hmo : (DO, W.listOf wo.toArray ko) ∈ news)
   (hdl : DatAll news wl left) (hdm : DatAll news wm mad) (hdo : DatAll news wo oth) (zl : left.length ≤ 1000) (zm : mad.length ≤ 1000) (zo : oth.length ≤ 1000)
   (ht : sm = true → plainD SA.ls = left ++ mad) (hf : sm = false → plainD SA.ls = left ∧ plainD SG.ls = oth ++ mad)
   (ms : m (Str.ofString "is_same") = some (.bool sm)) (mg0 : m (Str.ofString "goal") = some (.ref bG)) (ml : m (Str.ofString "left") = some (.ref DL)) (mm : m (Str.ofString "made") = some (.ref DM)) (mo : m (Str.ofString "other") = some (.ref DO))
   (K : ∀ (h' : Heap) (tk' : Nat) (m' : Str → Option Value), Fr h₀ L h' m' → News h₀ L h' news → Keep [] m m' →
     wpAny (model prog w) (lawA dp un gd lawScope L fa ccd outer) (execs rest (lawE lawScope L fa ccd)) Q E { s with heap := h', toks := tk' }) :
   wpAny (model prog w) (lawA dp un gd lawScope L fa ccd outer) (execs (st 11 :: rest) (lawE lawScope L fa ccd)) Q E s := by
  obtain ⟨sc, hsc⟩ : ∃ sc, sc = lawScope := ⟨_, rfl⟩
  rw [← hsc] at K ⊢
  conv at hsc => rhs; whnf
  conv in st 11 => whnf
  subst hsc
  replace K := Hold.mk K
  have hll : wl.length ≤ 1000 := by rw [hdl.length]; exact zl
  have hlm : wm.length ≤ 1000 := by rw [hdm.length]; exact zm
  have hlo : wo.length ≤ 1000 := by rw [hdo.length]; exact zo
  obtain ⟨ps, hps⟩ : ∃ ps : List (Str × Value), ps = [(Str.ofString "left", .ref DL), (Str.ofString "goal", .ref bG), (Str.ofString "is_same", .bool sm), (Str.ofString "made", .ref DM), (Str.ofString "other", .ref DO)] := ⟨_, rfl⟩
  have ok : SeenOk m ps := by rw [hps]; exact ⟨ml, mg0, ms, mm, mo, trivial⟩
  have kp : Keep [] m (seen ps m) := keepL ps ok
  replace F := seeL F ps ok
  subst hps
  simp only [seen] at F kp
  replace kp := Hold.mk kp
  replace ok := Hold.mk ok
  cases sm
  · obtain ⟨e1, e2⟩ := hf rfl
    clear ht hf
    k_steps
    refine Hold.mk ?_
    k_dflt (refine does_use (by k_asm) (by k_asm) (by k_asm) (by k_asm) (by k_asm) (by exact rfl) (plain_does hA zA) (by ktr_room) (by ktr_units) ?_)
    rintro r1 nx1 h1 tk1 F1 N1 ⟨D1, ws1, k1, tl1, rfl, rfl, hd1, ha1, ho1⟩
    have up1 : ∀ q ∈ news, q ∈ (D1, W.listOf ws1.toArray k1) :: (news ++ tl1) := fun q hq => .tail _ (List.mem_append.mpr (.inl hq))
    replace up1 := Hold.mk up1
    replace ha1 := Hold.mk ha1
    replace ho1 := Hold.mk ho1
    have hG1 := hG.mono up1.out
    k_steps
    refine Hold.mk (neSame N1 (.head _) (up1.out _ hml) (hd1.mono fun q hq => .tail _ hq) (by rw [e1]; exact hdl.mono up1.out) (okPlain _) (by ktr_units) ?_)
    k_steps
    refine Hold.mk ?_
    k_dflt (refine does_use (by k_asm) (by k_asm) (by k_asm) (by k_asm) (by k_asm) (by exact rfl) (plain_does hG1 zG) (by ktr_room) (by ktr_units) ?_)
    rintro r2 nx2 h2 tk2 F2 N2 ⟨D2, ws2, k2, tl2, rfl, rfl, hd2, ha2, ho2⟩
    have up2 : ∀ q ∈ news, q ∈ (D2, W.listOf ws2.toArray k2) :: ((D1, W.listOf ws1.toArray k1) :: (news ++ tl1) ++ tl2) := fun q hq => .tail _ (List.mem_append.mpr (.inl (up1.out q hq)))
    replace up2 := Hold.mk up2
    replace ha2 := Hold.mk ha2
    replace ho2 := Hold.mk ho2
    k_steps
    refine Hold.mk (addL F2 N2 (up2.out _ hmo) (up2.out _ hmm) (by omega) ?_)
    intro D3 h3 F3 N3 l3
    replace l3 := Hold.mk l3
    have up3 : ∀ q ∈ news, q ∈ (D3, W.listOf (wo ++ wm).toArray 0) :: (D2, W.listOf ws2.toArray k2) :: ((D1, W.listOf ws1.toArray k1) :: (news ++ tl1) ++ tl2) := fun q hq => .tail _ (up2.out q hq)
    replace up3 := Hold.mk up3
    k_steps
    refine Hold.mk (neSame N3 (.tail _ (.head _)) (.head _) (hd2.mono fun q hq => .tail _ (.tail _ hq)) (by rw [e2]; exact DatAll.append (hdo.mono up3.out) (hdm.mono up3.out)) (okPlain _) (by ktr_units) ?_)
    k_steps
    exact K.out _ _ _ F3 (cb_drop N3 up3.out) kp.out
  · have e1 := ht rfl
    clear ht hf
    k_steps
    refine Hold.mk ?_
    k_dflt (refine does_use (by k_asm) (by k_asm) (by k_asm) (by k_asm) (by k_asm) (by exact rfl) (plain_does hA zA) (by ktr_room) (by ktr_units) ?_)
    rintro r1 nx1 h1 tk1 F1 N1 ⟨D1, ws1, k1, tl1, rfl, rfl, hd1, ha1, ho1⟩
    have up1 : ∀ q ∈ news, q ∈ (D1, W.listOf ws1.toArray k1) :: (news ++ tl1) := fun q hq => .tail _ (List.mem_append.mpr (.inl hq))
    replace up1 := Hold.mk up1
    replace ha1 := Hold.mk ha1
    replace ho1 := Hold.mk ho1
    k_steps
    refine Hold.mk (addL F1 N1 (up1.out _ hml) (up1.out _ hmm) (by omega) ?_)
    intro D3 h3 F3 N3 l3
    replace l3 := Hold.mk l3
    have up3 : ∀ q ∈ news, q ∈ (D3, W.listOf (wl ++ wm).toArray 0) :: (D1, W.listOf ws1.toArray k1) :: (news ++ tl1) := fun q hq => .tail _ (up1.out q hq)
    replace up3 := Hold.mk up3
    k_steps
    refine Hold.mk (neSame N3 (.tail _ (.head _)) (.head _) (hd1.mono fun q hq => .tail _ (.tail _ hq)) (by rw [e1]; exact DatAll.append (hdl.mono up3.out) (hdm.mono up3.out)) (okPlain _) (by ktr_units) ?_)
    k_steps
    exact K.out _ _ _ F3 (cb_drop N3 up3.out) kp.out
end

theorem fresh_m27 : True ∧ True := by
  w_top off
  first | (walk1; done) | exact ⟨trivial, trivial⟩
section
open PySem.SeqAt
variable {prog : Program} {w : World} {A : Around} {E : Value → Shared → Prop} {s : Shared} {h₀ : Heap} {L a b : Addr} {news : List (Addr × Obj)} {xs ys : List Value} {ka kb : Nat} {Q : Value → Shared → Prop}
theorem neLens (N : News h₀ L s.heap news) (ma : (a, W.listOf xs.toArray ka) ∈ news) (mb : (b, W.listOf ys.toArray kb) ∈ news) (hl : xs.length ≠ ys.length) (hu : A.units < cLine) (h : Q (.bool true) s) :
    wpAny (model prog w) A (compareOp .NotEq (.ref a) (.ref b)) Q E s := by
  have hs : (xs.toArray.size != ys.toArray.size) = true := by rw [List.size_toArray, List.size_toArray]; simpa using hl
  exact RcNeAt.lists_lengths (A := A) (s := s) ⟨_, (N _ ma).1, rfl, _, rfl⟩ ⟨_, (N _ mb).1, rfl, _, rfl⟩ hs hu prog w E Q h
end
theorem fresh_m27_1 : True ∧ True := by
  w_top off
  first | (walk1; done) | exact ⟨trivial, trivial⟩
section
variable {prog : Program} {w : World} {p : Program} {loose : List Str} {mean : ExcName → Option Value} {mg mb : Str → Option Value} {news : List (Addr × Obj)}
  {dp un : Nat} {gd : Option (List Code)} {fa : Addr} {ccd : Value} {outer : List Env} {A₀ : Around} {base h₀ : Heap} {L : Addr} {m : Str → Option Value} {s : Shared} {Q : Flow → Shared → Prop} {E : Value → Shared → Prop} {rest : List Stmt}
local macro_rules | `(tactic| walk_at "compareOp NotEq ref ref") => `(tactic| (refine hold_tree ?_))
def costOf (mv : Bool) (K0 : List LT) : Int := if mv && !K0.isEmpty then 1 else 0
/-- cost = 1 if is_move and taken != [] else 0 -/
theorem seg12 {q2 : Obj} {mv : Bool} {K0 : List LT} {D3 : Addr} {ws3 : List Value} {k3 : Nat}
   (B : Below A₀ base outer h₀) (F : Fr h₀ L s.heap m) (X : (hd.heap_39 w.params).In h₀) (T : Top p loose mean mg mb h₀) (hdp : dp + 40 < recursionLimit) (hun : un + 20 * 40 + 100 < cLine)
   (N : News h₀ L s.heap news) (m2 : (L + 2, q2) ∈ news) (d2 : q2.data = .cell (some (.bool mv))) (hm3 : (D3, W.listOf ws3.toArray k3) ∈ news) (hd3 : DatAll news ws3 (plainD K0)) (ms : m (Str.ofString "taken") = some (.ref D3))
   (K : ∀ (t : Tok) (h' : Heap) (tk' : Nat) (m' : Str → Option Value), Fr h₀ L h' m' → News h₀ L h' news → m' (Str.ofString "cost") = some (.int (costOf mv K0) t) → Keep [Str.ofString "cost"] m m' →
     wpAny (model prog w) (lawA dp un gd lawScope L fa ccd outer) (execs rest (lawE lawScope L fa ccd)) Q E { s with heap := h', toks := tk' }) :
   wpAny (model prog w) (lawA dp un gd lawScope L fa ccd outer) (execs (st 12 :: rest) (lawE lawScope L fa ccd)) Q E s := by
  obtain ⟨sc, hsc⟩ : ∃ sc, sc = lawScope := ⟨_, rfl⟩
  rw [← hsc] at K ⊢
  conv at hsc => rhs; whnf
  conv in st 12 => whnf
  subst hsc
  replace K := Hold.mk K
  replace F := seeF F ms
  cases mv
  · k_steps
    rename_i FE NE
    exact K.out _ _ _ _ FE NE rfl (keep_if rfl (keep_see ms))
  · k_steps
    rename_i F1 N1 l1
    replace l1 := Hold.mk l1
    cases K0 with
    | nil =>
      refine Hold.mk (neSame (ds := []) N1 (.tail _ hm3) (.head _) (hd3.mono fun q hq => .tail _ hq) .nil (fun _ h => nomatch h) (by ktr_units) ?_)
      k_steps
      rename_i FE NE
      exact K.out _ _ _ _ FE (cb_drop NE fun q hq => .tail _ hq) rfl (keep_if rfl (keep_see ms))
    | cons x r =>
      have hne : ws3.length ≠ ([] : List Value).length := by rw [hd3.length]; exact Nat.succ_ne_zero _
      refine Hold.mk (neLens N1 (.tail _ hm3) (.head _) hne (by ktr_units) ?_)
      k_steps
      rename_i FE NE
      exact K.out _ _ _ _ FE (cb_drop NE fun q hq => .tail _ hq) rfl (keep_if rfl (keep_see ms))
end

theorem fresh_m28 : True ∧ True := by
  w_top off
  first | (walk1; done) | exact ⟨trivial, trivial⟩
theorem fresh_m28_1 : True ∧ True := by
  w_top off
  first | (walk1; done) | exact ⟨trivial, trivial⟩
section
variable {prog : Program} {w : World} {p : Program} {loose : List Str} {mean : ExcName → Option Value} {mg mb : Str → Option Value} {news : List (Addr × Obj)}
  {dp un : Nat} {gd : Option (List Code)} {fa : Addr} {ccd : Value} {outer : List Env} {A₀ : Around} {base h₀ : Heap} {L : Addr} {m : Str → Option Value} {s : Shared} {Q : Flow → Shared → Prop} {E : Value → Shared → Prop} {rest : List Stmt}
theorem neI {A : Around} {Q : Value → Shared → Prop} {a b : Int} {t u : Tok} (e : a = b) (h : Q (.bool false) s) : wpAny (model prog w) A (compareOp .NotEq (.int a t) (.int b u)) Q E s := by
  refine PyProof.Rows.ne_int ?_
  rw [e, bne_self_eq_false]
  exact h
local macro_rules | `(tactic| walk_at "compareOp NotEq int int") => `(tactic| (k_here; (with_reducible show wpAny _ _ (compareOp CmpOp.NotEq (Value.int _ _) (Value.int _ _)) _ _ _); refine' neI ?e ?_; (case e => first | assumption | omega)))
local macro_rules | `(tactic| walk_at "execs nil") => `(tactic| refine wpAny_execs_nil ?_)
/-- the tops -/
theorem seg13 {q3 q5 : Obj} {sm : Bool} {bA bG D3 tp : Addr} {SA SG : BS} {ws3 : List Value} {k3 kt n : Nat} {a0 a1 co : Int} {x1 x2 x3 : Tok}
   (B : Below A₀ base outer h₀) (F : Fr h₀ L s.heap m) (X : (hd.heap_39 w.params).In h₀) (T : Top p loose mean mg mb h₀) (hdp : dp + 40 < recursionLimit) (hun : un + 20 * 40 + 100 < cLine)
   (N : News h₀ L s.heap news) (m3 : (L + 3, q3) ∈ news) (d3 : q3.data = .cell (some (.ref bA))) (m5 : (L + 5, q5) ∈ news) (d5 : q5.data = .cell (some (.ref tp)))
   (hA : BoxAt w.params news bA SA) (hG : BoxAt w.params news bG SG) (mtp : (tp, ({ cls := .type "tuple", data := .seq [Value.int a0 x1, Value.int a1 x2].toArray kt } : Obj)) ∈ news)
   (hm3 : (D3, W.listOf ws3.toArray k3) ∈ news) (hl3 : ws3.length = n) (zn : n ≤ 1000)
   (ht : SG.top = a1 + (n : Int) + (if sm = true then co else 0)) (hf : sm = false → SA.top = a0 + co)
   (ms : m (Str.ofString "is_same") = some (.bool sm)) (mg0 : m (Str.ofString "goal") = some (.ref bG)) (mt : m (Str.ofString "taken") = some (.ref D3)) (mc : m (Str.ofString "cost") = some (.int co x3))
   (K : ∀ (h' : Heap) (tk' : Nat) (m' : Str → Option Value), Fr h₀ L h' m' → News h₀ L h' news → Keep [] m m' →
     wpAny (model prog w) (lawA dp un gd lawScope L fa ccd outer) (execs rest (lawE lawScope L fa ccd)) Q E { s with heap := h', toks := tk' }) :
   wpAny (model prog w) (lawA dp un gd lawScope L fa ccd outer) (execs (st 13 :: rest) (lawE lawScope L fa ccd)) Q E s := by
  obtain ⟨sc, hsc⟩ : ∃ sc, sc = lawScope := ⟨_, rfl⟩
  rw [← hsc] at K ⊢
  conv at hsc => rhs; whnf
  conv in st 13 => whnf
  subst hsc
  replace K := Hold.mk K
  obtain ⟨ps, hps⟩ : ∃ ps : List (Str × Value), ps = [(Str.ofString "goal", .ref bG), (Str.ofString "is_same", .bool sm), (Str.ofString "taken", .ref D3), (Str.ofString "cost", .int co x3)] := ⟨_, rfl⟩
  have ok : SeenOk m ps := by rw [hps]; exact ⟨mg0, ms, mt, mc, trivial⟩
  have kp : Keep [] m (seen ps m) := keepL ps ok
  replace F := seeL F ps ok
  subst hps
  simp only [seen] at F kp
  replace kp := Hold.mk kp
  replace ok := Hold.mk ok
  subst hl3
  cases hA with
  | @mk dA lA glA t1 t2 t3 t4 t5 t6 t7 k3A k4A nmA vaA f0A vsA gsA nA gnA a1' a2' a3' a4' a5' a6' =>
    cases hG with
    | @mk dG lG glG r1 r2 r3 r4 r5 r6 r7 j3 j4 nmG vaG f0G vsG gsG nG gnG b1 b2 b3 b4 b5 b6 =>
      replace a4' := Hold.mk a4'
      replace a6' := Hold.mk a6'
      replace b4 := Hold.mk b4
      replace b6 := Hold.mk b6
      cases sm
      · have ha := hf rfl
        clear hf
        simp only [Bool.false_eq_true, if_false] at ht
        k_steps
        exact K.out _ _ _ F N kp.out
      · clear hf
        simp only [if_true] at ht
        k_steps
        exact K.out _ _ _ F N kp.out
end

theorem fresh_m29 : True ∧ True := by
  w_top off
  first | (walk1; done) | exact ⟨trivial, trivial⟩
section
open PyProof.Rows.LCg PyProof.Rows.LCt
variable {prog : Program} {w : World} {A : Around} {E : Value → Shared → Prop} {s : Shared} {h₀ : Heap} {L : Addr} {m : Str → Option Value} {env : Env}
/-- [elt for x in range(n)], where a turn makes nothing that lasts -/
theorem compR0 {elt : PySem.Expr} {x : Str} {scope : Scope} {cl : List (Str × Addr)} {Fin : Shared → List Value → List (Addr × Obj) → Prop} {r : Addr} {a b : Int} {t u v : Tok} {n : Nat} {news : List (Addr × Obj)} {s₁ : Shared} (J : Nat → List Value → Prop)
    (hh : A.handled = none) (F : Fr h₀ L s₁.heap m) (N : News h₀ L s₁.heap news) (hr : IsRange s₁.heap r a b 1 t u v) (hsm : Builtin.Range.small a b 1 = true) (hn : Builtin.Range.rangeSize a b 1 = ((n : Nat) : Int)) (hsz : n ≤ 1000) (hj : J 0 [])
    (turn : ∀ i tv ys I oI C oC D m₂ g h tk (E' : Value → Shared → Prop), i < n → J i ys → NsObj oC m₂ → m₂ x = some (.int (a + (i : Int)) tv) → Fr h₀ L h m → News h₀ L h ((I, oI) :: (C, oC) :: (D, lst ys) :: news) → Off3 I C D news → ((@Ne Nat I C) ∧ (@Ne Nat I D) ∧ (@Ne Nat C D)) →
      wpAny (model prog w) A (eval elt (compEnvC scope cl C env)) (CompEnd h₀ L m { ({ s₁ with heap := g } : Shared) with heap := h, toks := tk } I oI C oC D (lst ys) (fun _ => True) (fun y nx' => nx' = news ∧ J (i + 1) (ys ++ [y]))) E' { ({ s₁ with heap := g } : Shared) with heap := h, toks := tk })
    (done : ∀ g ys, J n ys → Fin { s₁ with heap := g } ys news) : CompSrc prog w A h₀ L m env elt x scope cl Fin (.ref r) s₁ := by
  refine CompSrc.range hh F N hr hsm hn (by rw [sizeLine_eq]; omega) fun g => ?_
  refine compRest (n := n) (fun i ys nx => nx = news ∧ J i ys) ?_ ?_ _ 0 [] news (by omega) ⟨rfl, hj⟩
  · rintro i v ys nx I oI C oC D m₂ h tk E' hi ⟨tv, rfl⟩ ⟨rfl, hJ⟩ hC hx F N off ne
    exact turn i tv ys I oI C oC D m₂ g h tk E' hi hJ hC hx F N off ne
  · rintro ys nx ⟨rfl, hJ⟩
    exact done g ys hJ
theorem compEndR0 {s₁ : Shared} {I C D : Addr} {oI oC oD : Obj} {J' : Value → Prop} {y : Value} {h' : Heap} {tk : Nat} {all news : List (Addr × Obj)} (F : Fr h₀ L h' m) (N : News h₀ L h' all)
    (sub : ∀ p ∈ (I, oI) :: (C, oC) :: (D, oD) :: news, p ∈ all) (off : Off3 I C D news) (r : J' y) :
    CompEnd h₀ L m s₁ I oI C oC D oD (fun _ => True) (fun y nx' => nx' = news ∧ J' y) y { s₁ with heap := h', toks := tk } := CompEnd.intro F N news sub off trivial ⟨rfl, r⟩
end
theorem okIntsD {ns : List Int} : ∀ d ∈ ns.map Dat.int, datOk 8 d = true := by
  intro d hd
  obtain ⟨n, _, rfl⟩ := List.mem_map.mp hd
  rfl
def geP (nu : Int) (x : LT) : Bool := decide (nu ≤ x.uid)
theorem fresh_m29_1 : True ∧ True := by
  w_top off
  first | (walk1; done) | exact ⟨trivial, trivial⟩
section
variable {prog : Program} {w : World} {p : Program} {loose : List Str} {mean : ExcName → Option Value} {mg mb : Str → Option Value} {news : List (Addr × Obj)}
  {dp un : Nat} {gd : Option (List Code)} {fa : Addr} {ccd : Value} {outer : List Env} {A₀ : Around} {base h₀ : Heap} {L : Addr} {m : Str → Option Value} {s : Shared} {Q : Flow → Shared → Prop} {E : Value → Shared → Prop} {rest : List Stmt}
local macro_rules | `(tactic| walk_at "compareOp NotEq ref ref") => `(tactic| (refine hold_tree ?_))
local macro_rules | `(tactic| walk_at "execs nil") => `(tactic| refine wpAny_execs_nil ?_)
local macro_rules | `(tactic| walk_at "eval ListComp") => `(tactic| (k_here; (with_reducible show wpAny _ _ (eval (PySem.Expr.ListComp _ [PySem.Comprehension.mk (PySem.Expr.Name _ _) _ [] _] _ _) _) _ _ _); (refine hold_tree ?_)))
/-- the new letters' modseqs -/
theorem seg14 {q5 q6 : Obj} {bG D3 tp : Addr} {SG : BS} {ws3 : List Value} {k3 kt n : Nat} {a0 a1 nu : Int} {x1 x2 x3 : Tok}
   (B : Below A₀ base outer h₀) (F : Fr h₀ L s.heap m) (X : (hd.heap_39 w.params).In h₀) (T : Top p loose mean mg mb h₀) (hdp : dp + 40 < recursionLimit) (hun : un + 20 * 40 + 100 < cLine)
   (N : News h₀ L s.heap news) (m5 : (L + 5, q5) ∈ news) (d5 : q5.data = .cell (some (.ref tp))) (m6 : (L + 6, q6) ∈ news) (d6 : q6.data = .cell (some (.int nu x3)))
   (hG : BoxAt w.params news bG SG) (zG : SG.ls.length ≤ 1000) (mtp : (tp, ({ cls := .type "tuple", data := .seq [Value.int a0 x1, Value.int a1 x2].toArray kt } : Obj)) ∈ news)
   (hm3 : (D3, W.listOf ws3.toArray k3) ∈ news) (hl3 : ws3.length = n) (zn : n ≤ 1000)
   (he : (SG.ls.filter (geP nu)).map (·.mod) = (List.range n).map fun j : Nat => a1 + 1 + (j : Int))
   (mg0 : m (Str.ofString "goal") = some (.ref bG)) (mt : m (Str.ofString "taken") = some (.ref D3))
   (K : ∀ (h' : Heap) (tk' : Nat) (m' : Str → Option Value), Fr h₀ L h' m' → News h₀ L h' news → Keep [] m m' →
     wpAny (model prog w) (lawA dp un gd lawScope L fa ccd outer) (execs rest (lawE lawScope L fa ccd)) Q E { s with heap := h', toks := tk' }) :
   wpAny (model prog w) (lawA dp un gd lawScope L fa ccd outer) (execs (st 14 :: rest) (lawE lawScope L fa ccd)) Q E s := by
  obtain ⟨sc, hsc⟩ : ∃ sc, sc = lawScope := ⟨_, rfl⟩
  rw [← hsc] at K ⊢
  conv at hsc => rhs; whnf
  conv in st 14 => whnf
  subst hsc
  replace K := Hold.mk K
  obtain ⟨ps, hps⟩ : ∃ ps : List (Str × Value), ps = [(Str.ofString "goal", .ref bG), (Str.ofString "taken", .ref D3)] := ⟨_, rfl⟩
  have ok : SeenOk m ps := by rw [hps]; exact ⟨mg0, mt, trivial⟩
  have kp : Keep [] m (seen ps m) := keepL ps ok
  replace F := seeL F ps ok
  subst hps
  simp only [seen] at F kp
  replace kp := Hold.mk kp
  replace ok := Hold.mk ok
  subst hl3
  cases hG with
  | @mk dG lG glG r1 r2 r3 r4 r5 r6 r7 j3 j4 nmG vaG f0G vsG gsG nG gnG b1 b2 b3 b4 b5 b6 =>
    have hvz : vsG.length ≤ 1000 := by rw [b4.length]; exact zG
    have b4' := b4
    replace b4 := Hold.mk b4
    replace b6 := Hold.mk b6
    have hlen := b4'.length
    k_steps
    refine Hold.mk (compLT0 (fun i ys => IntsAre ys (((SG.ls.take i).filter (geP nu)).map (·.mod))) (by rfl) (by k_asm) (by k_asm) b3 hvz .nil ?_ ?_)
    · intro i v ys I oI C oC D m₂ gg h tk E' hi hv hys hC hx F7 N7 off ne
      obtain ⟨x, hx', hLx⟩ := b4'.at hv
      cases hLx with
      | @mk a dx ft s1 s2 s3 s4 s5 k1 k2 k3 k4 fv nf uid inst mod oct fl z1 z2 z3 z4 z5 =>
        replace hys := Hold.mk hys
        replace off := Hold.mk off
        replace ne := Hold.mk ne
        k_steps
        · rename_i hin
          have hi2 : geP nu ⟨uid, oct, fl, inst, mod⟩ = true := decide_eq_true hin
          refine Hold.mk (compEnd0 (J' := fun y => IntsAre (ys ++ [y]) (((SG.ls.take (i + 1)).filter (geP nu)).map (·.mod))) (by assumption) (by assumption) (fun _ h => h) off.out b3 ?_)
          rw [filter_take hx', if_pos hi2, List.map_append]
          exact hys.out.append (.cons _ _ .nil)
        · rename_i hin
          have hi2 : ¬ geP nu ⟨uid, oct, fl, inst, mod⟩ = true := fun e => hin (of_decide_eq_true e)
          refine Hold.mk (compEnd0 (J' := fun _ => IntsAre ys (((SG.ls.take (i + 1)).filter (geP nu)).map (·.mod))) (by assumption) (by assumption) (fun _ h => h) off.out b3 ?_)
          rw [filter_take hx', if_neg hi2, List.append_nil]
          exact hys.out
    · intro gg ys hys D h9 tk9 F9 N9 off9
      rw [hlen, List.take_length] at hys
      replace hys := Hold.mk hys
      replace off9 := Hold.mk off9
      k_steps
      refine Hold.mk ?_
      refine' LCg.ListComp_U (F₀ := ?f) ?k1 ?k2 ?k3 ?k4 ?k5 ?k6 ?hs
      (case hs => (intro _; rfl))
      (case f => k_asm)
      (case k1 => with_unfolding_all rfl)
      (case k2 => decide)
      (case k3 => rfl)
      (case k4 => decide)
      (case k5 => rfl)
      k_steps
      rename_i hr FR NR upR
      clear upR
      refine Hold.mk (compR0 (n := ws3.length) (fun i ys2 => IntsAre ys2 ((List.range i).map fun j : Nat => a1 + 1 + (0 + (j : Int)))) (by rfl) FR NR hr (small_one (by omega) (by omega) (by omega) (by omega)) (by rw [rangeSize_one]; split <;> omega) zn .nil ?_ ?_)
      · intro i tv ys2 I oI C oC D2 m₂ g2 h tk E' hi hys2 hC hx F7 N7 off ne
        replace hys2 := Hold.mk hys2
        replace off := Hold.mk off
        replace ne := Hold.mk ne
        k_steps
        refine Hold.mk (compEndR0 (J' := fun y => IntsAre (ys2 ++ [y]) ((List.range (i + 1)).map fun j : Nat => a1 + 1 + (0 + (j : Int)))) F7 N7 (fun _ h => h) off.out ?_)
        rw [List.range_succ, List.map_append]
        exact hys2.out.append (.cons _ _ .nil)
      · intro g2 ys2 hys2 D2 h10 tk10 F10 N10 off10
        replace hys2 := Hold.mk hys2
        replace off10 := Hold.mk off10
        k_steps
        have e : (SG.ls.filter (geP nu)).map (·.mod) = (List.range ws3.length).map fun j : Nat => a1 + 1 + (0 + (j : Int)) := by rw [he]; simp only [Int.zero_add]
        refine Hold.mk (neSame N10 (.tail _ (.head _)) (.head _) (datInts hys.out) (by rw [e]; exact datInts hys2.out) okIntsD (by ktr_units) ?_)
        k_steps
        exact K.out _ _ _ F10 (cb_drop N10 fun q hq => .tail _ (.tail _ hq)) kp.out
end

theorem fresh_m30 : True ∧ True := by
  w_top off
  first | (walk1; done) | exact ⟨trivial, trivial⟩
theorem pick_from {vs : List Value} {x : Int} (h : 0 ≤ x) : (slicePick vs.toArray (some x) none none).toList = vs.drop x.toNat := by
  obtain ⟨n, rfl⟩ := Int.eq_ofNat_of_zero_le h
  have hb : sliceBounds (some (n : Int)) none none vs.toArray.size = (((min n vs.length : Nat) : Int), ((vs.length : Nat) : Int), 1) := by
    have hn : ¬ (n : Int) < 0 := Int.not_lt.mpr h
    simp [sliceBounds, hn]
    omega
  rw [kmk_pick_nat _ hb]
  rcases Nat.le_total n vs.length with hn | hn
  · simpa [Nat.min_eq_left hn] using List.take_of_length_le (l := vs.drop n) (by simp)
  · simp [Nat.min_eq_right hn, List.drop_eq_nil_of_le hn]
theorem datDrop {news : List (Addr × Obj)} : ∀ {vs : List Value} {ds : List Dat} (k : Nat), DatAll news vs ds → DatAll news (vs.drop k) (ds.drop k)
  | _, _, 0, h => h
  | _, _, k + 1, .nil => .nil
  | _, _, k + 1, .cons _ r => datDrop k r
def goneD (top : Int) (x : LT) : Dat := .tuple [.int x.uid, .int top]
theorem okGone {K : List LT} {tp : Int} : ∀ d ∈ K.map (goneD tp), datOk 8 d = true := by
  intro d hd
  obtain ⟨x, _, rfl⟩ := List.mem_map.mp hd
  rfl
theorem fresh_m30_1 : True ∧ True := by
  w_top off
  first | (walk1; done) | exact ⟨trivial, trivial⟩
section
variable {prog : Program} {w : World} {p : Program} {loose : List Str} {mean : ExcName → Option Value} {mg mb : Str → Option Value} {news : List (Addr × Obj)}
  {dp un : Nat} {gd : Option (List Code)} {fa : Addr} {ccd : Value} {outer : List Env} {A₀ : Around} {base h₀ : Heap} {L : Addr} {m : Str → Option Value} {s : Shared} {Q : Flow → Shared → Prop} {E : Value → Shared → Prop} {rest : List Stmt}
local macro_rules | `(tactic| walk_at "compareOp NotEq ref ref") => `(tactic| (refine hold_tree ?_))
local macro_rules | `(tactic| walk_at "compareOp NotEq int int") => `(tactic| (k_here; (with_reducible show wpAny _ _ (compareOp CmpOp.NotEq (Value.int _ _) (Value.int _ _)) _ _ _); refine' neI ?e ?_; (case e => first | assumption | omega)))
local macro_rules | `(tactic| walk_at "execs nil") => `(tactic| refine wpAny_execs_nil ?_)
local macro_rules | `(tactic| walk_at "eval ListComp") => `(tactic| (k_here; (with_reducible show wpAny _ _ (eval (PySem.Expr.ListComp _ [PySem.Comprehension.mk (PySem.Expr.Name _ _) _ [] _] _ _) _) _ _ _); (refine hold_tree ?_)))
local macro_rules | `(tactic| walk_at "subscriptTail Name Slice ref ref") => `(tactic| (k_here; (with_reducible show wpAny _ _ (subscriptTail _ (PySem.Expr.Slice _ _ none _) (Value.ref _) (Value.ref _)) _ _ _); k_dflt (refine' kmk_slice_lit ?F ?N ?l ?p ?q ?e ?_ ?s ?t ?z; (case F => k_asm); (case N => k_asm); (case l => kmk_list); (case p => kmk_part); (case q => kmk_part); (case e => exact pick_from (by omega)); (case s => with_unfolding_all rfl); (case t => kmk_pure); (case z => assumption)); intro D' h' F' N' l1'))
/-- next_uid, and what is gone -/
theorem seg15 {q2 q3 q6 : Obj} {mv : Bool} {bA bG D3 : Addr} {SA SG : BS} {K0 : List LT} {ws3 : List Value} {k3 : Nat} {nu : Int} {x3 : Tok}
   (B : Below A₀ base outer h₀) (F : Fr h₀ L s.heap m) (X : (hd.heap_39 w.params).In h₀) (T : Top p loose mean mg mb h₀) (hdp : dp + 40 < recursionLimit) (hun : un + 20 * 40 + 100 < cLine)
   (N : News h₀ L s.heap news) (m2 : (L + 2, q2) ∈ news) (d2 : q2.data = .cell (some (.bool mv))) (m3 : (L + 3, q3) ∈ news) (d3 : q3.data = .cell (some (.ref bA))) (m6 : (L + 6, q6) ∈ news) (d6 : q6.data = .cell (some (.int nu x3)))
   (hA : BoxAt w.params news bA SA) (hG : BoxAt w.params news bG SG) (zA : SA.gd.length ≤ 1000)
   (hm3 : (D3, W.listOf ws3.toArray k3) ∈ news) (hd3 : DatAll news ws3 (plainD K0)) (zn : K0.length ≤ 1000)
   (hn : SG.nu = nu + (K0.length : Int)) (hg : mv = true → K0.length ≤ SA.gd.length ∧ SA.gd.drop (SA.gd.length - K0.length) = K0.map (goneD SA.top))
   (mg0 : m (Str.ofString "goal") = some (.ref bG)) (mt : m (Str.ofString "taken") = some (.ref D3))
   (K : ∀ (h' : Heap) (tk' : Nat) (m' : Str → Option Value), Fr h₀ L h' m' → News h₀ L h' news → Keep [] m m' →
     wpAny (model prog w) (lawA dp un gd lawScope L fa ccd outer) (execs rest (lawE lawScope L fa ccd)) Q E { s with heap := h', toks := tk' }) :
   wpAny (model prog w) (lawA dp un gd lawScope L fa ccd outer) (execs (st 15 :: rest) (lawE lawScope L fa ccd)) Q E s := by
  obtain ⟨sc, hsc⟩ : ∃ sc, sc = lawScope := ⟨_, rfl⟩
  rw [← hsc] at K ⊢
  conv at hsc => rhs; whnf
  conv in st 15 => whnf
  subst hsc
  replace K := Hold.mk K
  obtain ⟨ps, hps⟩ : ∃ ps : List (Str × Value), ps = [(Str.ofString "goal", .ref bG), (Str.ofString "taken", .ref D3)] := ⟨_, rfl⟩
  have ok : SeenOk m ps := by rw [hps]; exact ⟨mg0, mt, trivial⟩
  have kp : Keep [] m (seen ps m) := keepL ps ok
  replace F := seeL F ps ok
  subst hps
  simp only [seen] at F kp
  replace kp := Hold.mk kp
  replace ok := Hold.mk ok
  have hl3 : ws3.length = K0.length := by rw [hd3.length]; exact List.length_map _
  have hz3 : ws3.length ≤ 1000 := by omega
  have hn2 : SG.nu = nu + (ws3.length : Int) := by rw [hl3]; exact hn
  cases hA with
  | @mk dA lA glA t1 t2 t3 t4 t5 t6 t7 k3A k4A nmA vaA f0A vsA gsA nA gnA a1' a2' a3' a4' a5' a6' =>
    cases hG with
    | @mk dG lG glG r1 r2 r3 r4 r5 r6 r7 j3 j4 nmG vaG f0G vsG gsG nG gnG b1 b2 b3 b4 b5 b6 =>
      have hgl : gsA.length = SA.gd.length := a6'.length
      have hgz : gsA.length ≤ 1000 := by omega
      replace a4' := Hold.mk a4'
      have g6 := a6'
      replace a6' := Hold.mk a6'
      replace b4 := Hold.mk b4
      replace b6 := Hold.mk b6
      cases mv
      · clear hg
        k_steps
        exact K.out _ _ _ F N kp.out
      · obtain ⟨hg1, hg2⟩ := hg rfl
        clear hg
        have hgs : gsA.toArray.size ≤ sizeLine := by rw [List.size_toArray, sizeLine_eq]; omega
        k_steps
        rename_i Ds hs FS NS lS
        have hk : ((gsA.length : Int) - (ws3.length : Int)).toNat = SA.gd.length - K0.length := by omega
        rw [hk] at NS
        have hmS : (Ds, W.listOf (gsA.drop (SA.gd.length - K0.length)).toArray 0) ∈ (Ds, W.listOf (gsA.drop (SA.gd.length - K0.length)).toArray 0) :: news := .head _
        have hsl : DatAll ((Ds, W.listOf (gsA.drop (SA.gd.length - K0.length)).toArray 0) :: news) (gsA.drop (SA.gd.length - K0.length)) (K0.map (goneD SA.top)) := by rw [← hg2]; exact (datDrop _ g6).mono fun q hq => .tail _ hq
        replace hsl := Hold.mk hsl
        replace lS := Hold.mk lS
        obtain ⟨nn, hnn⟩ : ∃ nn, nn = (Ds, W.listOf (gsA.drop (SA.gd.length - K0.length)).toArray 0) :: news := ⟨_, rfl⟩
        rw [← hnn] at NS hmS
        have up : ∀ q ∈ news, q ∈ nn := fun q hq => by rw [hnn]; exact .tail _ hq
        replace up := Hold.mk up
        replace hnn := Hold.mk hnn
        have n3 := up.out _ m3
        have c1 := up.out _ a1'
        have c2 := up.out _ a2'
        have hm3' := up.out _ hm3
        refine Hold.mk ?_
        refine' LCg.ListComp_U (F₀ := ?f) ?k1 ?k2 ?k3 ?k4 ?k5 ?k6 ?hs
        (case hs => (intro _; rfl))
        (case f => k_asm)
        (case k1 => with_unfolding_all rfl)
        (case k2 => decide)
        (case k3 => rfl)
        (case k4 => decide)
        (case k5 => rfl)
        k_steps
        refine Hold.mk (compL1 (fun i ys tl => DatAll (nn ++ tl) ys ((K0.take i).map (goneD SA.top))) (by rfl) FS NS hm3' hz3 .nil ?_ ?_)
        · intro i v ys tl I oI C oC D m₂ g5 h tk E' hi hv hys hAb hC hx F7 N7 off ne
          obtain ⟨x, a, ft, n, t0, t1', t3', rfl, hx', hrow, hft, hdat⟩ := rowAt hd3 hv
          have hrow' := List.mem_append (t := tl) |>.mpr (.inl (up.out _ hrow))
          have n3' := List.mem_append (t := tl) |>.mpr (.inl n3)
          have c1' := List.mem_append (t := tl) |>.mpr (.inl c1)
          have c2' := List.mem_append (t := tl) |>.mpr (.inl c2)
          replace hys := Hold.mk hys
          replace hAb := Hold.mk hAb
          replace hft := Hold.mk hft
          replace hdat := Hold.mk hdat
          k_steps
          rename_i Dn hn' F8 N8 l8
          refine Hold.mk (compEnd1 (R := fun y tl' => DatAll (nn ++ tl') (ys ++ [y]) ((K0.take (i + 1)).map (goneD SA.top))) F8 N8 l8 off hm3' hAb.out ?_)
          rw [map_take hx']
          exact DatAll.snoc1 (hys.out.mono subA1) (.tuple (mid1 _ _) (.cons (.int _ _) (.cons (.int _ _) .nil)))
        · intro g5 ys tl hAb hys D h9 tk9 F9 N9 off9
          rw [hl3, List.take_length] at hys
          replace hys := Hold.mk hys
          replace hAb := Hold.mk hAb
          replace off9 := Hold.mk off9
          k_steps
          refine Hold.mk (neSame N9 (.tail _ (List.mem_append.mpr (.inl hmS))) (.head _) (hsl.out.mono fun q hq => ?g1) (hys.out.mono fun q hq => .tail _ hq) okGone (by ktr_units) ?_)
          case g1 =>
            rw [← hnn.out] at hq
            exact .tail _ (List.mem_append.mpr (.inl hq))
          k_steps
          exact K.out _ _ _ F9 (cb_drop N9 fun q hq => .tail _ (List.mem_append.mpr (.inl (up.out q hq)))) kp.out
end

theorem fresh_m31 : True ∧ True := by
  w_top off
  first | (walk1; done) | exact ⟨trivial, trivial⟩
/-! the plain law -/
theorem eq_of_mem {α : Type} {r : α → α → Prop} (irr : ∀ a, ¬ r a a) (asym : ∀ a b, r a b → ¬ r b a) : ∀ {l k : List α}, l.Pairwise r → k.Pairwise r → (∀ x, x ∈ l ↔ x ∈ k) → l = k
  | [], [], _, _, _ => rfl
  | [], b :: k, _, _, h => nomatch (h b).mpr (.head _)
  | a :: l, [], _, _, h => nomatch (h a).mp (.head _)
  | a :: l, b :: k, h1, h2, h => by
    obtain ⟨h1a, h1l⟩ := List.pairwise_cons.mp h1
    obtain ⟨h2a, h2l⟩ := List.pairwise_cons.mp h2
    have e : a = b := by
      rcases List.mem_cons.mp ((h a).mp (.head _)) with e | ha
      · exact e
      · rcases List.mem_cons.mp ((h b).mpr (.head _)) with e | hb
        · exact e.symm
        · exact absurd (h1a b hb) (asym _ _ (h2a a ha))
    subst e
    rw [eq_of_mem irr asym h1l h2l fun x => ?_]
    constructor
    · intro hx
      rcases List.mem_cons.mp ((h x).mp (.tail _ hx)) with e | hk
      · exact absurd (e ▸ h1a x hx) (irr _)
      · exact hk
    · intro hx
      rcases List.mem_cons.mp ((h x).mpr (.tail _ hx)) with e | hk
      · exact absurd (e ▸ h2a x hx) (irr _)
      · exact hk
abbrev Asc (ls : List LT) : Prop := ls.Pairwise fun a b => a.uid < b.uid
theorem asc_inj {ls : List LT} (h : Asc ls) {x y : LT} (hx : x ∈ ls) (hy : y ∈ ls) (e : x.uid = y.uid) : x = y := by
  obtain ⟨i, hi, rfl⟩ := List.getElem_of_mem hx
  obtain ⟨j, hj, rfl⟩ := List.getElem_of_mem hy
  rcases Nat.lt_trichotomy i j with h1 | h1 | h1
  · have := List.pairwise_iff_getElem.mp h i j hi hj h1; omega
  · subst h1; rfl
  · have := List.pairwise_iff_getElem.mp h j i hj hi h1; omega
theorem pick_mem {ls : List LT} {u : Int} {x : LT} (h : pick ls u = some x) : x ∈ ls ∧ x.uid = u := by
  unfold pick at h
  exact ⟨List.mem_of_find?_eq_some h, by simpa using List.find?_some h⟩
theorem pick_of {ls : List LT} (hs : Asc ls) {x : LT} (hx : x ∈ ls) : pick ls x.uid = some x := by
  obtain ⟨j, hj, e⟩ := List.getElem_of_mem hx
  exact pick_some hs (by rw [List.getElem?_eq_getElem hj, e]) rfl
theorem taken_eq {ls : List LT} {us us' : List Int} (hs : Asc ls) (hp : us'.Perm us) (hn : us.Nodup) (ho : us'.Pairwise (· ≤ ·)) : us'.filterMap (pick ls) = ls.filter (inUs us) := by
  have hn' : us'.Nodup := hp.nodup_iff.mpr hn
  have hlt : us'.Pairwise (· < ·) := (List.Pairwise.and ho hn').imp fun h => by have := h.1; have := h.2; omega
  refine eq_of_mem (r := fun a b : LT => a.uid < b.uid) (fun a h => absurd h (Int.lt_irrefl _)) (fun a b h1 h2 => absurd (Int.lt_trans h1 h2) (Int.lt_irrefl _)) ?_ ?_ ?_
  · rw [List.pairwise_filterMap]
    exact hlt.imp fun h a ha b hb => by
      have e1 := (pick_mem ha).2
      have e2 := (pick_mem hb).2
      omega
  · exact hs.filter _
  · intro x
    rw [List.mem_filterMap, List.mem_filter]
    constructor
    · rintro ⟨u, hu, hx⟩
      obtain ⟨h1, rfl⟩ := pick_mem hx
      exact ⟨h1, decide_eq_true (hp.mem_iff.mp hu)⟩
    · rintro ⟨h1, h2⟩
      exact ⟨x.uid, hp.mem_iff.mpr (of_decide_eq_true h2), pick_of hs h1⟩
theorem nine_nodup {us : List Int} (h : us.Sublist Nine) : us.Nodup ∧ us.length ≤ 9 := ⟨h.nodup (by decide), h.length_le⟩
theorem taken_len {ls : List LT} {us : List Int} (hs : Asc ls) (h : us.length ≤ 9) (hn : us.Nodup) : (ls.filter (inUs us)).length ≤ 9 := by
  obtain ⟨us', hp, ho⟩ : ∃ us' : List Int, us'.Perm us ∧ us'.Pairwise (· ≤ ·) := ⟨us.mergeSort (fun a b => decide (a ≤ b)), List.mergeSort_perm _ _, by
    have := List.pairwise_mergeSort (le := fun a b : Int => decide (a ≤ b)) (fun a b c h1 h2 => by simp only [decide_eq_true_eq] at *; omega) (fun a b => by simp only [Bool.or_eq_true, decide_eq_true_eq]; omega) us
    exact this.imp fun h => by simpa using h⟩
  rw [← taken_eq hs hp hn ho]
  exact Nat.le_trans (List.length_filterMap_le _ _) (hp.length_eq ▸ h)
theorem made_in : ∀ {K : List LT} {nu tp : Int} {x : LT}, x ∈ made nu tp K → nu ≤ x.uid ∧ x.uid < nu + (K.length : Int)
  | [], _, _, _, h => nomatch h
  | y :: r, nu, tp, x, h => by
    rw [made] at h
    rw [List.length_cons]
    rcases List.mem_cons.mp h with rfl | h
    · exact ⟨Int.le_refl _, by show nu < _; omega⟩
    · have := made_in h
      omega
theorem made_asc : ∀ {K : List LT} {nu tp : Int}, Asc (made nu tp K)
  | [], _, _ => .nil
  | y :: r, nu, tp => by
    rw [made]
    refine List.pairwise_cons.mpr ⟨fun x hx => ?_, made_asc⟩
    have := made_in hx
    show nu < x.uid
    omega
theorem made_mods : ∀ {K : List LT} {nu tp : Int}, (made nu tp K).map (·.mod) = (List.range K.length).map fun j : Nat => tp + 1 + (j : Int)
  | [], _, _ => rfl
  | y :: r, nu, tp => by
    rw [made, List.map_cons, made_mods, List.length_cons, List.range_succ_eq_map, List.map_cons, List.map_map]
    simp only [List.cons.injEq, Function.comp_def]
    refine ⟨by omega, List.map_congr_left fun j _ => by omega⟩
section
variable {SA SB : BS} {k : Nat} {us : List Int} {K0 : List LT}
theorem in_taken (hA : Asc SA.ls) (hK : K0 = SA.ls.filter (inUs us)) {x : LT} (hx : x ∈ SA.ls) : decide (x.uid ∈ K0.map (·.uid)) = inUs us x := by
  unfold inUs
  refine decide_eq_decide.mpr ⟨fun h => ?_, fun h => ?_⟩
  · obtain ⟨y, hy, e⟩ := List.mem_map.mp h
    rw [hK] at hy
    rw [← e]
    exact of_decide_eq_true (List.mem_filter.mp hy).2
  · exact List.mem_map.mpr ⟨x, by rw [hK]; exact List.mem_filter.mpr ⟨hx, decide_eq_true h⟩, rfl⟩
theorem not_taken (hb : ∀ x ∈ SA.ls, x.uid < SA.nu) (hK : K0 = SA.ls.filter (inUs us)) {tp : Int} {x : LT} (hx : x ∈ made SA.nu tp K0) : ¬ x.uid ∈ K0.map (·.uid) := by
  intro h
  obtain ⟨y, hy, e⟩ := List.mem_map.mp h
  rw [hK] at hy
  have h1 := hb y (List.mem_filter.mp hy).1
  have h2 := (made_in hx).1
  have e' : y.uid = x.uid := e
  omega
theorem left_old (hA : Asc SA.ls) (hK : K0 = SA.ls.filter (inUs us)) : leftOf SA.ls (K0.map (·.uid)) = SA.ls.filter (leftP true us) := by
  refine List.filter_congr fun x hx => ?_
  rw [in_taken hA hK hx]
  rfl
theorem left_made (hb : ∀ x ∈ SA.ls, x.uid < SA.nu) (hK : K0 = SA.ls.filter (inUs us)) (tp : Int) : leftOf (made SA.nu tp K0) (K0.map (·.uid)) = made SA.nu tp K0 := by
  refine List.filter_eq_self.mpr fun x hx => ?_
  rw [decide_eq_false (not_taken hb hK hx)]
  rfl
theorem there_old (hA : Asc SA.ls) (hK : K0 = SA.ls.filter (inUs us)) : thereOf SA.ls (K0.map (·.uid)) = K0.map (·.uid) := by
  show ((SA.ls.map (·.uid)).filter fun u => decide (u ∈ K0.map (·.uid))) = _
  rw [List.filter_map]
  have : SA.ls.filter ((fun u => decide (u ∈ K0.map (·.uid))) ∘ (·.uid)) = K0 := by
    rw [hK]
    exact List.filter_congr fun x hx => by
      have := in_taken hA hK hx
      rw [hK] at this
      exact this
  rw [this]
theorem there_made (hb : ∀ x ∈ SA.ls, x.uid < SA.nu) (hK : K0 = SA.ls.filter (inUs us)) (tp : Int) : thereOf (made SA.nu tp K0) (K0.map (·.uid)) = [] := by
  show (((made SA.nu tp K0).map (·.uid)).filter fun u => decide (u ∈ K0.map (·.uid))) = _
  refine List.filter_eq_nil_iff.mpr fun u hu => ?_
  obtain ⟨x, hx, rfl⟩ := List.mem_map.mp hu
  simp only [decide_eq_true_eq]
  exact not_taken hb hK hx
theorem there_app {a b : List LT} {us : List Int} : thereOf (a ++ b) us = thereOf a us ++ thereOf b us := by
  unfold thereOf
  rw [List.map_append, List.filter_append]
theorem left_app {a b : List LT} {us : List Int} : leftOf (a ++ b) us = leftOf a us ++ leftOf b us := List.filter_append _ _
end

theorem fresh_m32 : True ∧ True := by
  w_top off
  first | (walk1; done) | exact ⟨trivial, trivial⟩
section
variable {SA SB : BS} {k : Nat} {us : List Int} {K0 : List LT}
theorem cost_cons {x : LT} {r : List LT} : costOf true (x :: r) = 1 := rfl
theorem cost_nil : costOf true [] = 0 := rfl
theorem cost_no {K0 : List LT} : costOf false K0 = 0 := rfl
theorem cost_if {K0 : List LT} : (if K0.map (·.uid) = [] then (0 : Int) else 1) = costOf true K0 := by
  cases K0 <;> rfl
theorem gone_cost {K0 : List LT} {t : Int} : K0.map (goneD (t + 1)) = K0.map (goneD (t + costOf true K0)) := by
  cases K0 <;> rfl
theorem exp_old (hI : InvS SA k) (hK : K0 = SA.ls.filter (inUs us)) : expS SA (K0.map (·.uid)) = ⟨SA.ls.filter (leftP true us), SA.nu, SA.top + costOf true K0, SA.gd ++ K0.map (goneD (SA.top + costOf true K0))⟩ := by
  unfold expS
  rw [there_old hI.asc hK, left_old hI.asc hK, cost_if, ← gone_cost, List.map_map]
  rfl
theorem exp_add (hI : InvS SA k) (hK : K0 = SA.ls.filter (inUs us)) : expS (addK SA K0) (K0.map (·.uid)) =
    ⟨SA.ls.filter (leftP true us) ++ made SA.nu SA.top K0, SA.nu + K0.length, SA.top + K0.length + costOf true K0, SA.gd ++ K0.map (goneD (SA.top + K0.length + costOf true K0))⟩ := by
  have e1 : thereOf (addK SA K0).ls (K0.map (·.uid)) = K0.map (·.uid) := by
    show thereOf (SA.ls ++ made SA.nu SA.top K0) _ = _
    rw [there_app, there_old hI.asc hK, there_made hI.below hK, List.append_nil]
  have e2 : leftOf (addK SA K0).ls (K0.map (·.uid)) = SA.ls.filter (leftP true us) ++ made SA.nu SA.top K0 := by
    show leftOf (SA.ls ++ made SA.nu SA.top K0) _ = _
    rw [left_app, left_old hI.asc hK, left_made hI.below hK]
  unfold expS
  rw [e1, e2, cost_if, ← gone_cost, List.map_map]
  rfl
theorem left_all0 {ls : List LT} : ls.filter (leftP false us) = ls := List.filter_eq_self.mpr fun _ _ => rfl
def goA (SA : BS) (sm mv : Bool) (K0 : List LT) : BS := after (if sm then addK SA K0 else SA) mv K0
def goB (SB : BS) (sm : Bool) (K0 : List LT) : BS := if sm then SB else addK SB K0
def gB (sm : Bool) (SA SB : BS) : BS := if sm then SA else SB
theorem fact11t {sm mv : Bool} (hI : InvS SA k) (hK : K0 = SA.ls.filter (inUs us)) (h : sm = true) : plainD (goA SA sm mv K0).ls = plainD (SA.ls.filter (leftP mv us)) ++ plainD (made (gB sm SA SB).nu (gB sm SA SB).top K0) := by
  subst h
  cases mv
  · show plainD (SA.ls ++ made SA.nu SA.top K0) = _
    rw [left_all0]
    exact List.map_append
  · show plainD (expS (addK SA K0) (K0.map (·.uid))).ls = _
    rw [exp_add hI hK]
    exact List.map_append
theorem fact11f {sm mv : Bool} (hI : InvS SA k) (hK : K0 = SA.ls.filter (inUs us)) (h : sm = false) : plainD (goA SA sm mv K0).ls = plainD (SA.ls.filter (leftP mv us)) ∧
    plainD (gB sm (goA SA sm mv K0) (goB SB sm K0)).ls = plainD SB.ls ++ plainD (made (gB sm SA SB).nu (gB sm SA SB).top K0) := by
  subst h
  refine ⟨?_, List.map_append⟩
  cases mv
  · rw [left_all0]; rfl
  · show plainD (expS SA (K0.map (·.uid))).ls = _
    rw [exp_old hI hK]
theorem fact13t {sm mv : Bool} (hI : InvS SA k) (hK : K0 = SA.ls.filter (inUs us)) : (gB sm (goA SA sm mv K0) (goB SB sm K0)).top = (gB sm SA SB).top + (K0.length : Int) + (if sm = true then costOf mv K0 else 0) := by
  cases sm
  · show SB.top + (K0.length : Int) = SB.top + (K0.length : Int) + 0
    omega
  · cases mv
    · show SA.top + (K0.length : Int) = SA.top + (K0.length : Int) + 0
      omega
    · show (expS (addK SA K0) (K0.map (·.uid))).top = _
      rw [exp_add hI hK]
      rfl
theorem fact13f {sm mv : Bool} (hI : InvS SA k) (hK : K0 = SA.ls.filter (inUs us)) (h : sm = false) : (goA SA sm mv K0).top = SA.top + costOf mv K0 := by
  subst h
  cases mv
  · show SA.top = SA.top + 0
    omega
  · show (expS SA (K0.map (·.uid))).top = _
    rw [exp_old hI hK]
theorem ge_made {nu tp : Int} {K0 : List LT} : (made nu tp K0).filter (geP nu) = made nu tp K0 := List.filter_eq_self.mpr fun x hx => decide_eq_true (made_in hx).1
theorem ge_old {nu : Int} {ls : List LT} (h : ∀ x ∈ ls, x.uid < nu) : ls.filter (geP nu) = [] := List.filter_eq_nil_iff.mpr fun x hx e => by
  have h1 : nu ≤ x.uid := of_decide_eq_true e
  have := h x hx
  omega
theorem fact14 {sm mv : Bool} (hI : InvS SA k) (hJ : InvS SB k) (hK : K0 = SA.ls.filter (inUs us)) :
    ((gB sm (goA SA sm mv K0) (goB SB sm K0)).ls.filter (geP (gB sm SA SB).nu)).map (·.mod) = (List.range K0.length).map fun j : Nat => (gB sm SA SB).top + 1 + (j : Int) := by
  have key : ∀ (old : List LT) (nu tp : Int), (∀ x ∈ old, x.uid < nu) → ((old ++ made nu tp K0).filter (geP nu)).map (·.mod) = (List.range K0.length).map fun j : Nat => tp + 1 + (j : Int) := fun old nu tp ho => by
    rw [List.filter_append, ge_old ho, List.nil_append, ge_made, made_mods]
  cases sm
  · exact key SB.ls SB.nu SB.top hJ.below
  · cases mv
    · exact key SA.ls SA.nu SA.top hI.below
    · show ((expS (addK SA K0) (K0.map (·.uid))).ls.filter (geP SA.nu)).map (·.mod) = _
      rw [exp_add hI hK]
      exact key _ SA.nu SA.top fun x hx => hI.below x (List.mem_filter.mp hx).1
theorem fact15n {sm mv : Bool} (hI : InvS SA k) (hK : K0 = SA.ls.filter (inUs us)) : (gB sm (goA SA sm mv K0) (goB SB sm K0)).nu = (gB sm SA SB).nu + (K0.length : Int) := by
  cases sm
  · rfl
  · cases mv
    · rfl
    · show (expS (addK SA K0) (K0.map (·.uid))).nu = _
      rw [exp_add hI hK]
      rfl
theorem fact15g {sm mv : Bool} (hI : InvS SA k) (hK : K0 = SA.ls.filter (inUs us)) (h : mv = true) : K0.length ≤ (goA SA sm mv K0).gd.length ∧ (goA SA sm mv K0).gd.drop ((goA SA sm mv K0).gd.length - K0.length) = K0.map (goneD (goA SA sm mv K0).top) := by
  subst h
  have key : ∀ (g : List Dat) (t : Int), K0.length ≤ (g ++ K0.map (goneD t)).length ∧ (g ++ K0.map (goneD t)).drop ((g ++ K0.map (goneD t)).length - K0.length) = K0.map (goneD t) := fun g t => by
    have e : (g ++ K0.map (goneD t)).length = g.length + K0.length := by rw [List.length_append, List.length_map]
    refine ⟨by omega, ?_⟩
    rw [e, Nat.add_sub_cancel]
    exact List.drop_left
  cases sm
  · have e : goA SA false true K0 = expS SA (K0.map (·.uid)) := rfl
    rw [e, exp_old hI hK]
    exact key _ _
  · have e : goA SA true true K0 = expS (addK SA K0) (K0.map (·.uid)) := rfl
    rw [e, exp_add hI hK]
    exact key _ _
theorem inv_add (hI : InvS SA k) (hl : K0.length ≤ 9) : InvS (addK SA K0) (k + 1) := by
  refine ⟨List.pairwise_append.mpr ⟨hI.asc, made_asc, fun a ha b hb => ?_⟩, fun x hx => ?_, ?_, ?_⟩
  · have h1 := hI.below a ha
    have h2 := (made_in hb).1
    omega
  · show x.uid < SA.nu + (K0.length : Int)
    rcases List.mem_append.mp hx with hx | hx
    · have := hI.below x hx; omega
    · have := (made_in hx).2; omega
  · show (SA.ls ++ made SA.nu SA.top K0).length ≤ _
    have := hI.size
    rw [List.length_append, made_length]
    omega
  · have := hI.gone
    show SA.gd.length ≤ _
    omega
theorem inv_more (hI : InvS SA k) : InvS SA (k + 1) := ⟨hI.asc, hI.below, by have := hI.size; omega, by have := hI.gone; omega⟩
theorem inv_goA {sm mv : Bool} (hI : InvS SA k) (hK : K0 = SA.ls.filter (inUs us)) (hl : K0.length ≤ 9) : InvS (goA SA sm mv K0) (k + 1) := by
  have hg : ∀ t : Int, (SA.gd ++ K0.map (goneD t)).length ≤ 9 * (k + 1) := fun t => by
    have := hI.gone
    rw [List.length_append, List.length_map]
    omega
  cases mv
  · cases sm
    · exact inv_more hI
    · exact inv_add hI hl
  · cases sm
    · show InvS (expS SA (K0.map (·.uid))) (k + 1)
      rw [exp_old hI hK]
      exact ⟨hI.asc.filter _, fun x hx => hI.below x (List.mem_filter.mp hx).1, by have := hI.size; have := List.length_filter_le (leftP true us) SA.ls; show (SA.ls.filter _).length ≤ _; omega, hg _⟩
    · show InvS (expS (addK SA K0) (K0.map (·.uid))) (k + 1)
      rw [exp_add hI hK]
      have h0 := inv_add hI hl
      have sub : (SA.ls.filter (leftP true us) ++ made SA.nu SA.top K0).Sublist (SA.ls ++ made SA.nu SA.top K0) := List.Sublist.append List.filter_sublist (List.Sublist.refl _)
      exact ⟨List.Pairwise.sublist sub h0.asc, fun x hx => h0.below x (sub.subset hx), Nat.le_trans sub.length_le h0.size, hg _⟩
theorem inv_goB {sm : Bool} (hJ : InvS SB k) (hl : K0.length ≤ 9) : InvS (goB SB sm K0) (k + 1) := by
  cases sm
  · exact inv_add hJ hl
  · exact inv_more hJ
end

theorem fresh_m33 : True ∧ True := by
  w_top off
  first | (walk1; done) | exact ⟨trivial, trivial⟩
/-! a for over a list of the ledger whose target is a cell -/
section
variable {prog : Program} {w : World} {A : Around} {E : Value → Shared → Prop} {s : Shared} {h₀ : Heap} {env : Env} {x : Str} {body : List Stmt} {Q : Flow → Shared → Prop} {c : Addr}
def EndC (h₀ : Heap) (L c I : Addr) (oI : Obj) (J' : (Str → Option Value) → List (Addr × Obj) → Prop) (s₁ s₂ : Shared) : Prop :=
  ∃ h' tk' m' r oc u, s₂ = { s₁ with heap := h', toks := tk' } ∧ Fr h₀ L h' m' ∧ News h₀ L h' ((c, oc) :: (I, oI) :: r) ∧ oc.data = .cell u ∧ Off c r ∧ Off I r ∧ J' m' r
def PostC (h₀ : Heap) (L c I : Addr) (oI : Obj) (J' : (Str → Option Value) → List (Addr × Obj) → Prop) (s₁ : Shared) (Q : Flow → Shared → Prop) (f : Flow) (s₂ : Shared) : Prop :=
  match f with
  | .ret v => Q (.ret v) s₂
  | .brk => Q .next s₂
  | _ => EndC h₀ L c I oI J' s₁ s₂
def LoopC (prog : Program) (w : World) (A : Around) (h₀ : Heap) (env : Env) (c : Addr) (body : List Stmt) (Q : Flow → Shared → Prop) (E : Value → Shared → Prop) (xv : Value) (s₁ : Shared) : Prop :=
  ∃ (lo : Addr) (vs : List Value) (k : Nat) (m : Str → Option Value) (r : List (Addr × Obj)) (oc : Obj) (u : Option Value) (J : Nat → (Str → Option Value) → List (Addr × Obj) → Prop), xv = .ref lo ∧ A.handled = none ∧ Fr h₀ env.locals s₁.heap m ∧ News h₀ env.locals s₁.heap ((c, oc) :: r) ∧ oc.data = .cell u ∧ Off c r ∧
    (∀ i m r, J i m r → (lo, W.listOf vs.toArray k) ∈ r) ∧ J 0 m r ∧
    (∀ i v m₁ r₁ h tk I oI oc fs, i < vs.length → vs[i]? = some v → J i m₁ r₁ → oI.data = Data.fields fs → @Ne Nat c I → Off c r₁ → Off I r₁ → Fr h₀ env.locals h m₁ → News h₀ env.locals h ((c, oc) :: (I, oI) :: r₁) → oc.data = .cell (some v) →
      wpAny (model prog w) A (execs body env) (PostC h₀ env.locals c I oI (J (i + 1)) { s₁ with heap := h, toks := tk } Q) E { s₁ with heap := h, toks := tk }) ∧
    ∀ m₁ r₁ h tk oc, J vs.length m₁ r₁ → Fr h₀ env.locals h m₁ → News h₀ env.locals h ((c, oc) :: r₁) → Q .next { s₁ with heap := h, toks := tk }
theorem for_cells {px pos : Pos} {iter : PySem.Expr} (hk : env.scope.kind = .function) (hx : env.kindOf x = some .cell) (hc : env.cells.lookup x = some c)
    (h : wpAny (model prog w) A (eval iter env) (LoopC prog w A h₀ env c body Q E) E s) (hs : ∀ x, foldedSetIterable iter env x = pure x := by intro _; rfl)
    (hE : PySem.PassesOwn (model prog w) A env E) : wpAny (model prog w) A (exec (.For (.Name x px) iter body [] pos) env) Q E s := by
  refine wpAny_For (wpAny_mono h (fun xv s₁ h₁ => ?_) fun _ _ e => e) hs
  obtain ⟨lo, vs, k, m, r, oc, u, J, rfl, hh, F, N, hd, hoff, hJl, hJ, turn, done⟩ := h₁
  have hlo := N _ (.tail _ (hJl _ _ _ hJ))
  have hls : s₁.heap.IsList lo vs.toArray := ⟨_, hlo.1, rfl, _, rfl⟩
  have hlt := Heap.lt_size hlo.1
  have hcI : c ≠ s₁.heap.objs.size := Nat.ne_of_lt (Heap.lt_size (N _ (.head _)).1)
  refine wpAny_pyIter_list hls ?_
  have W := Walks.list (prog := prog) (w := w) hh s₁.heap.objs.size lo (Nat.ne_of_lt hlt) vs.toArray
  have hn : vs.toArray.size = vs.length := by simp
  rw [hn] at W
  generalize hI : s₁.heap.objs.size = I at *
  have hIL : env.locals ≠ I := hI ▸ Nat.ne_of_lt F.ns.lt
  have hI₀ : h₀.get? I = none := hI ▸ next_is_new F
  have hnI : ∀ p ∈ (c, oc) :: r, p.1 ≠ I := fun p hp => hI ▸ Nat.ne_of_lt (Heap.lt_size (N p hp).1)
  refine codeAny_forLoop
    (fun n s' => ∃ h' tk m' r' i oc u, s' = { s₁ with heap := h', toks := tk } ∧ h'.IsListIter I lo i ∧ Fr h₀ env.locals h' m' ∧ News h₀ env.locals h' ((c, oc) :: r') ∧ oc.data = .cell u ∧ Off c r' ∧ Off I r' ∧ J i m' r' ∧ i ≤ vs.length ∧ n = vs.length + 1 - i) ?_ (vs.length + 1)
    ⟨_, _, m, r, 0, oc, u, rfl, ⟨_, hI ▸ Heap.get?_push_size _ rfl, rfl, rfl⟩, F.push _, (fun p hp => ⟨Heap.get?_push_of_some _ (N p hp).1, (N p hp).2⟩), hd, hoff, fun p hp => hnI p (.tail _ hp), hJ, Nat.zero_le _, rfl⟩
  rintro n s' ⟨h', tk, m', r', i, oc', u', rfl, hit, F', N', hd', hoff', hoffI, hJ', hi, rfl⟩
  have hl' : h'.IsList lo vs.toArray := ⟨_, (N' _ (.tail _ (hJl _ _ _ hJ'))).1, rfl, _, rfl⟩
  have keep : ∀ h₁ : Heap, (∀ b o, b ∉ [I] → h'.get? b = some o → h₁.get? b = some o) → Fr h₀ env.locals h₁ m' ∧ News h₀ env.locals h₁ ((c, oc') :: r') := fun h₁ hk₁ =>
    ⟨⟨F'.ns.at' fun o e => hk₁ _ o (fun q => hIL (List.mem_singleton.mp q)) e, fun b o e => hk₁ b o (fun q => by rw [List.mem_singleton.mp q, hI₀] at e; cases e) (F'.keep b o e), F'.above⟩, fun p hp => by
      refine ⟨hk₁ _ _ (fun q => ?_) (N' p hp).1, (N' p hp).2⟩
      have q := List.mem_singleton.mp q
      rcases List.mem_cons.mp hp with rfl | hp
      · exact hcI q
      · exact hoffI p hp q⟩
  by_cases hlti : i < vs.length
  · refine W.item i _ _ _ hlti ⟨hit, hl'⟩ fun v h₁ tk₁ hP hst₁ hk₁ => ?_
    obtain ⟨F₁, N₁⟩ := keep h₁ hk₁
    refine wpAny_assign_Name (wpAny_storeName_cell hk hx hc ⟨oc', (N₁ _ (.head _)).1, hd'⟩ fun h₂ hv₂ hs₂ => ?_)
    obtain ⟨oc₂, hc₂, hdc₂⟩ := hv₂
    have hcm := N₁ (c, oc') (.head _)
    have F₂ : Fr h₀ env.locals h₂ m' := ⟨F₁.ns.sameBut hs₂ (Ne.symm hcm.2.1), fun b ob e => (hs₂.2 b (fun q => by rw [q, hcm.2.2] at e; cases e)).trans (F₁.keep b ob e), F₁.above⟩
    obtain ⟨oI, hgI, hcI', hdI⟩ := hst₁.1
    have hgI₂ : h₂.get? I = some oI := (hs₂.2 I (Ne.symm hcI)).trans hgI
    have N₂ : News h₀ env.locals h₂ ((c, oc₂) :: (I, oI) :: r') := fun p hp => by
      rcases List.mem_cons.mp hp with rfl | hp
      · exact ⟨hc₂, hcm.2⟩
      · rcases List.mem_cons.mp hp with rfl | hp
        · exact ⟨hgI₂, Ne.symm hIL, hI₀⟩
        · have z := N₁ p (.tail _ hp)
          exact ⟨(hs₂.2 _ (hoff' p hp)).trans z.1, z.2⟩
    refine wpAny_mono (wpAny_passesOwn hE (turn i v m' r' h₂ tk₁ I oI oc₂ _ hlti (by simpa using hP) hJ' hdI hcI hoff' hoffI F₂ N₂ hdc₂)) (fun f s₃ hf3 => ?_) fun _ _ e => e
    have fin : EndC h₀ env.locals c I oI (J (i + 1)) { s₁ with heap := h₂, toks := tk₁ } s₃ → ∃ n', n' < vs.length + 1 - i ∧ ∃ h' tk m' r' i oc u, s₃ = { s₁ with heap := h', toks := tk } ∧ h'.IsListIter I lo i ∧ Fr h₀ env.locals h' m' ∧ News h₀ env.locals h' ((c, oc) :: r') ∧ oc.data = .cell u ∧ Off c r' ∧ Off I r' ∧ J i m' r' ∧ i ≤ vs.length ∧ n' = vs.length + 1 - i := by
      rintro ⟨h₃, tk₃, m₃, r₃, oc₃, u₃, rfl, F₃, N₃, hd₃, ho₃, hoI₃, hJ₃⟩
      refine ⟨vs.length + 1 - (i + 1), by omega, h₃, tk₃, m₃, r₃, i + 1, oc₃, u₃, rfl, ⟨oI, (N₃ _ (.tail _ (.head _))).1, hcI', hdI⟩, F₃, fun p hp => ?_, hd₃, ho₃, hoI₃, hJ₃, hlti, rfl⟩
      rcases List.mem_cons.mp hp with rfl | hp
      · exact N₃ _ (.head _)
      · exact N₃ p (.tail _ (.tail _ hp))
    cases f with
    | ret v => exact hf3
    | brk => exact hf3
    | cont => exact fin hf3
    | next => exact fin hf3
  · have hin : i = vs.length := by omega
    subst hin
    refine W.done _ _ _ ⟨hit, hl'⟩ fun h₁ tk₁ hk₁ => wpAny_execs_nil ?_
    obtain ⟨F₁, N₁⟩ := keep h₁ hk₁
    exact done m' r' h₁ tk₁ oc' hJ' F₁ N₁
end

theorem fresh_m34 : True ∧ True := by
  w_top off
  first | (walk1; done) | exact ⟨trivial, trivial⟩
/-! what stands in the ledger is known apart by its kind -/
def plainO (o : Obj) : Bool := match o.data with | .cell _ => false | .fields _ => false | _ => true
theorem plain_cell {o : Obj} {u : Option Value} (h : o.data = .cell u) : plainO o = false := by unfold plainO; rw [h]
theorem plain_fields {o : Obj} {fs : Array Value} (h : o.data = .fields fs) : plainO o = false := by unfold plainO; rw [h]
theorem offKind {h₀ h : Heap} {L c : Addr} {news nx : List (Addr × Obj)} {oc : Obj} (N : News h₀ L h news) (hc : (c, oc) ∈ news) (hk : plainO oc = false) (hp : ∀ q ∈ nx, q ∈ news ∧ plainO q.2 = true) : Off c nx := by
  intro q hq e
  have h1 := (N _ (hp q hq).1).1
  have h2 := (N _ hc).1
  have e' : q.1 = c := e
  rw [e'] at h1
  have h3 : oc = q.2 := Option.some.inj (h2.symm.trans h1)
  rw [h3, (hp q hq).2] at hk
  cases hk
abbrev plainL (l : List (Addr × Obj)) : List (Addr × Obj) := l.filter fun q => plainO q.2
theorem inPlain {l : List (Addr × Obj)} {q : Addr × Obj} (h : q ∈ l) (hp : plainO q.2 = true) : q ∈ plainL l := List.mem_filter.mpr ⟨h, hp⟩
theorem LetterIn.plain {P : Params} {news : List (Addr × Obj)} {v : Value} {l : LT} (h : LetterIn P news v l) : LetterIn P (plainL news) v l := by
  cases h with
  | mk h1 h2 h3 h4 h5 => exact .mk (inPlain h1 rfl) (inPlain h2 rfl) (inPlain h3 rfl) h4 h5
theorem LettersIn.plain {P : Params} {news : List (Addr × Obj)} : ∀ {vs : List Value} {ls : List LT}, LettersIn P news vs ls → LettersIn P (plainL news) vs ls
  | _, _, .nil => .nil
  | _, _, .cons h r => .cons h.plain r.plain
mutual
theorem datPlain {news : List (Addr × Obj)} : ∀ {v : Value} {d : Dat}, DatIn news v d → DatIn (plainL news) v d
  | _, _, .none => .none
  | _, _, .bool b => .bool b
  | _, _, .int i t => .int i t
  | _, _, .str x t => .str x t
  | _, _, .bytes b t => .bytes b t
  | _, _, .tuple h r => .tuple (inPlain h rfl) (datsPlain r)
  | _, _, .list h r => .list (inPlain h rfl) (datsPlain r)
theorem datsPlain {news : List (Addr × Obj)} : ∀ {vs : List Value} {ds : List Dat}, DatAll news vs ds → DatAll (plainL news) vs ds
  | _, _, .nil => .nil
  | _, _, .cons h r => .cons (datPlain h) (datsPlain r)
end
theorem OneAt.plain {P : Params} {rest : List (Addr × Obj)} {b : Addr} {S : BS} {d l : Addr} {D O : Obj} (h : OneAt P rest b S d l D O) : OneAt P (plainL rest) b S d l D O ∧ plainO D = true ∧ plainO O = true := by
  cases h with
  | mk h1 h2 h3 h4 h5 h6 h7 => exact ⟨.mk (inPlain h1 rfl) h2.plain (inPlain h3 rfl) (datsPlain h4) h5 (fun q hq => h6 q (List.mem_filter.mp hq).1) (fun q hq => h7 q (List.mem_filter.mp hq).1), rfl, rfl⟩
theorem TwoAt.plain {P : Params} {rest news : List (Addr × Obj)} {bA bB : Addr} {SA SB : BS} (h : TwoAt P rest bA bB SA SB news) : ∃ news', TwoAt P (plainL rest) bA bB SA SB news' ∧ ∀ q ∈ news', q ∈ news ∧ plainO q.2 = true := by
  cases h with
  | mk h1 h2 h3 =>
    refine ⟨_, .mk h1.plain.1 h2.plain.1 h3, ?_⟩
    intro q hq
    simp only [List.mem_cons] at hq ⊢
    rcases hq with rfl | rfl | rfl | rfl | hq
    · exact ⟨.inl rfl, h1.plain.2.1⟩
    · exact ⟨.inr (.inl rfl), h1.plain.2.2⟩
    · exact ⟨.inr (.inr (.inl rfl)), h2.plain.2.1⟩
    · exact ⟨.inr (.inr (.inr (.inl rfl))), h2.plain.2.2⟩
    · exact ⟨.inr (.inr (.inr (.inr (List.mem_filter.mp hq).1))), (List.mem_filter.mp hq).2⟩
theorem keepGet {names : List Str} {m m' : Str → Option Value} {z : Str} {v : Option Value} (h : Keep names m m') (hz : names.contains z = false) (hm : m z = v) : m' z = v := (h z hz).trans hm
/-- which box is the source -/
theorem whichBox {P : Params} {rst news0 : List (Addr × Obj)} {b0 b1 : Addr} {S0 S1 : BS} {k : Nat} (c : Int) (hT : TwoAt P rst b0 b1 S0 S1 news0) (h0 : InvS S0 k) (h1 : InvS S1 k) :
    ∃ bA bB SA SB news, TwoAt P rst bA bB SA SB news ∧ (∀ q ∈ news, q ∈ news0) ∧ (∀ q ∈ news0, q ∈ news) ∧ InvS SA k ∧ InvS SB k ∧ [Value.ref b0, .ref b1][(c.fmod 2).toNat]? = some (.ref bA) ∧ [Value.ref b0, .ref b1][(1 - c.fmod 2).toNat]? = some (.ref bB) ∧
      ∀ rst' SA' SB' news', TwoAt P rst' bA bB SA' SB' news' → InvS SA' (k + 1) → InvS SB' (k + 1) → ∃ S0' S1' news0', TwoAt P rst' b0 b1 S0' S1' news0' ∧ (∀ q ∈ news0', q ∈ news') ∧ InvS S0' (k + 1) ∧ InvS S1' (k + 1) := by
  have hh0 : 0 ≤ c.fmod 2 := Int.fmod_nonneg_of_pos _ (by decide)
  have hh2 : c.fmod 2 < 2 := Int.fmod_lt_of_pos _ (by decide)
  have hc : c.fmod 2 = 0 ∨ c.fmod 2 = 1 := by omega
  rcases hc with e | e
  · refine ⟨b0, b1, S0, S1, news0, hT, fun _ h => h, fun _ h => h, h0, h1, by rw [e]; rfl, by rw [e]; rfl, fun rst' SA' SB' news' hT' i1 i2 => ⟨SA', SB', news', hT', fun _ h => h, i1, i2⟩⟩
  · obtain ⟨news, hT2, s1, s2⟩ := hT.swap
    refine ⟨b1, b0, S1, S0, news, hT2, s1, s2, h1, h0, by rw [e]; rfl, by rw [e]; rfl, fun rst' SA' SB' news' hT' i1 i2 => ?_⟩
    obtain ⟨news2, hT3, s3, _⟩ := hT'.swap
    exact ⟨SB', SA', news2, hT3, s3, i2, i1⟩

theorem fresh_m35 : True ∧ True := by
  w_top off
  first | (walk1; done) | exact ⟨trivial, trivial⟩
mutual
def noList : Dat → Bool
  | .tuple ds => noLists ds
  | .list _ => false
  | _ => true
def noLists : List Dat → Bool
  | [] => true
  | d :: ds => noList d && noLists ds
end
mutual
theorem datTup {news news' : List (Addr × Obj)} (hs : ∀ a vs n, (a, tupObj vs n) ∈ news → (a, tupObj vs n) ∈ news') : ∀ {v : Value} {d : Dat}, DatIn news v d → noList d = true → DatIn news' v d
  | _, _, .none, _ => .none
  | _, _, .bool b, _ => .bool b
  | _, _, .int i t, _ => .int i t
  | _, _, .str x t, _ => .str x t
  | _, _, .bytes b t, _ => .bytes b t
  | _, _, .tuple h r, hk => .tuple (hs _ _ _ h) (datsTup hs r (by simpa [noList] using hk))
  | _, _, .list h r, hk => by simp [noList] at hk
theorem datsTup {news news' : List (Addr × Obj)} (hs : ∀ a vs n, (a, tupObj vs n) ∈ news → (a, tupObj vs n) ∈ news') : ∀ {vs : List Value} {ds : List Dat}, DatAll news vs ds → noLists ds = true → DatAll news' vs ds
  | _, _, .nil, _ => .nil
  | _, _, .cons h r, hk => by
    have hk' := hk
    simp only [noLists, Bool.and_eq_true] at hk'
    exact .cons (datTup hs h hk'.1) (datsTup hs r hk'.2)
end
theorem noLists_of : ∀ {ds : List Dat}, (∀ d ∈ ds, noList d = true) → noLists ds = true
  | [], _ => rfl
  | d :: ds, h => by rw [noLists, h d (.head _), noLists_of fun e he => h e (.tail _ he)]; rfl
theorem noPlain (K : List LT) : noLists (plainD K) = true := noLists_of fun d hd => by
  obtain ⟨x, _, rfl⟩ := List.mem_map.mp hd
  have : noLists (x.fl.map Dat.str) = true := noLists_of fun e he => by
    obtain ⟨y, _, rfl⟩ := List.mem_map.mp he
    rfl
  simp only [rowD, noList, noLists, this, Bool.and_true]
theorem noPairs : ∀ (K : List LT) (nu : Int), noLists (pairsD nu K) = true
  | [], _ => rfl
  | x :: r, nu => by
    simp only [pairsD, noLists, noList, noPairs r, Bool.and_true]
theorem TwoAt.tup {P : Params} {rest news : List (Addr × Obj)} {bA bB : Addr} {SA SB : BS} (h : TwoAt P rest bA bB SA SB news) {a : Addr} {vs : List Value} {n : Nat} (hm : (a, tupObj vs n) ∈ news) : (a, tupObj vs n) ∈ rest := by
  cases h with
  | mk h1 h2 h3 =>
    cases h1
    cases h2
    simp only [List.mem_cons, Prod.mk.injEq] at hm
    rcases hm with ⟨_, e⟩ | ⟨_, e⟩ | ⟨_, e⟩ | ⟨_, e⟩ | hm
    · injection e with e1; injection e1 with e2; exact absurd e2 (by decide)
    · injection e with e1; injection e1 with e2; exact absurd e2 (by decide)
    · injection e with e1; injection e1 with e2; exact absurd e2 (by decide)
    · injection e with e1; injection e1 with e2; exact absurd e2 (by decide)
    · exact hm

theorem fresh_m36 : True ∧ True := by
  w_top off
  first | (walk1; done) | exact ⟨trivial, trivial⟩
theorem boxG {P : Params} {news : List (Addr × Obj)} {bA bB : Addr} {SA SB : BS} {sm : Bool} (hA : BoxAt P news bA SA) (hB : BoxAt P news bB SB) : BoxAt P news (if sm then bA else bB) (gB sm SA SB) := by
  cases sm
  · exact hB
  · exact hA
theorem nu_gB {sm : Bool} {SA SB : BS} : (if sm then SA.nu else SB.nu) = (gB sm SA SB).nu := by cases sm <;> rfl
theorem tupCell {a b : Addr} {vs : List Value} {n : Nat} {q : Obj} {u : Option Value} {P : Prop} (h : (a, tupObj vs n) = (b, q)) (hd : q.data = .cell u) : P := by
  have e : q = tupObj vs n := (Prod.mk.inj h).2.symm
  rw [e] at hd
  cases hd
theorem tupFields {a b : Addr} {vs : List Value} {n : Nat} {q : Obj} {fs : Array Value} {P : Prop} (h : (a, tupObj vs n) = (b, q)) (hd : q.data = .fields fs) : P := by
  have e : q = tupObj vs n := (Prod.mk.inj h).2.symm
  rw [e] at hd
  cases hd
theorem lenPlain {K : List LT} {n : Nat} (h : K.length ≤ n) : (plainD K).length ≤ n := by
  unfold plainD
  rw [List.length_map]; exact h
section
variable {prog : Program} {w : World} {p : Program} {loose : List Str} {mean : ExcName → Option Value} {mg mb : Str → Option Value}
  {dp un : Nat} {gd : Option (List Code)} {fa : Addr} {ccd : Value} {outer : List Env} {A₀ : Around} {base h₀ : Heap} {L : Addr} {m : Str → Option Value} {s : Shared} {Q : Flow → Shared → Prop} {E : Value → Shared → Prop} {rest : List Stmt}
theorem turn_law {q1 q2 q3 q4 q5 q6 oI : Obj} {u2 u3 u4 u5 u6 : Option Value} {c : Int} {tc : Tok} {I tw b0 b1 : Addr} {fs : Array Value} {nt k : Nat} {S0 S1 : BS} {rst news0 : List (Addr × Obj)}
   (B : Below A₀ base outer h₀) (F : Fr h₀ L s.heap m) (X : (hd.heap_39 w.params).In h₀) (T : Top p loose mean mg mb h₀) (hdp : dp + 40 < recursionLimit) (hun : un + 20 * 40 + 100 < cLine)
   (N : News h₀ L s.heap ((L + 1, q1) :: (I, oI) :: (L + 2, q2) :: (L + 3, q3) :: (L + 4, q4) :: (L + 5, q5) :: (L + 6, q6) :: news0))
   (d1 : q1.data = .cell (some (.int c tc))) (d2 : q2.data = .cell u2) (d3 : q3.data = .cell u3) (d4 : q4.data = .cell u4) (d5 : q5.data = .cell u5) (d6 : q6.data = .cell u6) (dI : oI.data = .fields fs)
   (hnI : ∀ i : Nat, 1 ≤ i → i ≤ 6 → @Ne Nat (L + i) I) (hp0 : ∀ q ∈ news0, plainO q.2 = true) (hT : TwoAt w.params rst b0 b1 S0 S1 news0)
   (htw : (tw, W.listOf [Value.ref b0, .ref b1].toArray nt) ∈ rst) (mtw : m (Str.ofString "two") = some (.ref tw)) (h0 : InvS S0 k) (h1 : InvS S1 k) (hk : k ≤ 3)
   (K : ∀ (q2 q3 q4 q5 q6 : Obj) (u2 u3 u4 u5 u6 : Option Value) (rst' news' : List (Addr × Obj)) (S0' S1' : BS) (h' : Heap) (tk' : Nat) (m' : Str → Option Value), Fr h₀ L h' m' →
     News h₀ L h' ((L + 1, q1) :: (I, oI) :: (L + 2, q2) :: (L + 3, q3) :: (L + 4, q4) :: (L + 5, q5) :: (L + 6, q6) :: news') →
     q2.data = .cell u2 → q3.data = .cell u3 → q4.data = .cell u4 → q5.data = .cell u5 → q6.data = .cell u6 → (∀ q ∈ news', plainO q.2 = true) → TwoAt w.params rst' b0 b1 S0' S1' news' →
     (∀ z ∈ rst, plainO z.2 = true → z ∈ rst') → InvS S0' (k + 1) → InvS S1' (k + 1) → m' (Str.ofString "two") = some (.ref tw) →
     wpAny (model prog w) (lawA dp un gd lawScope L fa ccd outer) (execs rest (lawE lawScope L fa ccd)) Q E { s with heap := h', toks := tk' }) :
   wpAny (model prog w) (lawA dp un gd lawScope L fa ccd outer)
     (execs (st 0 :: st 1 :: st 2 :: st 3 :: st 4 :: st 5 :: st 6 :: st 7 :: st 8 :: st 9 :: st 10 :: st 11 :: st 12 :: st 13 :: st 14 :: st 15 :: rest) (lawE lawScope L fa ccd)) Q E s := by
  obtain ⟨bA, bB, SA, SB, newsT, hT2, sT1, sT2, iA, iB, hA, hB, back⟩ := whichBox c hT h0 h1
  have pT : ∀ q ∈ newsT, plainO q.2 = true := fun q hq => hp0 q (sT1 q hq)
  have perm0 : ∀ q ∈ (L + 1, q1) :: (L + 2, q2) :: (L + 3, q3) :: (L + 4, q4) :: (L + 5, q5) :: (L + 6, q6) :: (I, oI) :: newsT, q ∈ (L + 1, q1) :: (I, oI) :: (L + 2, q2) :: (L + 3, q3) :: (L + 4, q4) :: (L + 5, q5) :: (L + 6, q6) :: news0 := by
    intro q hq
    simp only [List.mem_cons] at hq ⊢
    rcases hq with h | h | h | h | h | h | h | h
    · simp only [h, true_or, or_true]
    · simp only [h, true_or, or_true]
    · simp only [h, true_or, or_true]
    · simp only [h, true_or, or_true]
    · simp only [h, true_or, or_true]
    · simp only [h, true_or, or_true]
    · simp only [h, true_or, or_true]
    · simp only [sT1 q h, true_or, or_true]
  have N0 := cb_drop N perm0
  have offC : ∀ (i : Nat) (q : Obj) (u : Option Value), 1 ≤ i → i ≤ 6 → (L + i, q) ∈ (L + 1, q1) :: (L + 2, q2) :: (L + 3, q3) :: (L + 4, q4) :: (L + 5, q5) :: (L + 6, q6) :: (I, oI) :: newsT → q.data = .cell u → Off (L + i) ((I, oI) :: newsT) := by
    intro i q u hi1 hi2 hm hd z hz
    rcases List.mem_cons.mp hz with rfl | hz
    · exact (hnI i hi1 hi2).symm
    · exact offKind N0 hm (plain_cell hd) (fun q hq => ⟨.tail _ (.tail _ (.tail _ (.tail _ (.tail _ (.tail _ (.tail _ hq)))))), pT q hq⟩) z hz
  have f1 := offC 1 q1 _ (by decide) (by decide) (.head _) d1
  have f2 := offC 2 q2 _ (by decide) (by decide) (.tail _ (.head _)) d2
  have f3 := offC 3 q3 _ (by decide) (by decide) (.tail _ (.tail _ (.head _))) d3
  have f4 := offC 4 q4 _ (by decide) (by decide) (.tail _ (.tail _ (.tail _ (.head _)))) d4
  have f5 := offC 5 q5 _ (by decide) (by decide) (.tail _ (.tail _ (.tail _ (.tail _ (.head _))))) d5
  have f6 := offC 6 q6 _ (by decide) (by decide) (.tail _ (.tail _ (.tail _ (.tail _ (.tail _ (.head _)))))) d6
  have zA : SA.ls.length ≤ 500 := by have := iA.size; omega
  have zB : SB.ls.length ≤ 500 := by have := iB.size; omega
  have zgA : SA.gd.length ≤ 1000 := by have := iA.gone; omega
  have bxs := hT2.boxes
  refine seg1 B F X T hdp hun N0 d1 d2 d3 d4 f1 f2 f3 f4 f5 f6 (.tail _ (bxs.2.2 _ htw)) mtw hA hB ?_
  intro sm mv us uvs ul p2 p3 p4 h1' tk1 m1 hus hi hul F1 N1 e2 e3 e4 ms1 mg1 kp1
  obtain ⟨l1, el1⟩ : ∃ l1, l1 = (ul, LCg.lst uvs) :: (L + 1, q1) :: (L + 2, p2) :: (L + 3, p3) :: (L + 4, p4) :: (L + 5, q5) :: (L + 6, q6) :: (I, oI) :: newsT := ⟨_, rfl⟩
  rw [← el1] at N1
  have in1 : ∀ q, q ∈ l1 ↔ q = (ul, LCg.lst uvs) ∨ q = (L + 1, q1) ∨ q = (L + 2, p2) ∨ q = (L + 3, p3) ∨ q = (L + 4, p4) ∨ q = (L + 5, q5) ∨ q = (L + 6, q6) ∨ q = (I, oI) ∨ q ∈ newsT := by
    intro q; rw [el1]; simp only [List.mem_cons]
  clear el1
  have up1 : ∀ q ∈ newsT, q ∈ l1 := fun q hq => (in1 q).mpr (by simp only [hq, or_true])
  have mUl : (ul, W.listOf uvs.toArray uvs.length) ∈ l1 := (in1 (ul, LCg.lst uvs)).mpr (.inl rfl)
  have bG := boxG (sm := sm) bxs.1 bxs.2.1
  have zG : (gB sm SA SB).ls.length ≤ 1000 := by cases sm; exact Nat.le_trans zB (by decide); exact Nat.le_trans zA (by decide)
  refine seg3 B F1 X T hdp hun N1 ((in1 (L + 3, p3)).mpr (by simp only [true_or, or_true])) e3 mg1 (bxs.1.mono up1) (bG.mono up1) (by omega) zG ?_
  intro xs3 D1 D2 ws1 ws2 k1 k2 h3 tk3 m3 F3 N3 o3 hm1 hm2 hd1 hd2 mS mO kp3
  refine seg4 B F3 X T hdp hun N3 (q4 := p4) (List.mem_append.mpr (.inr ((in1 _).mpr (by simp only [true_or, or_true])))) e4 (ul := ul) (uvs := uvs) (ku := uvs.length) (List.mem_append.mpr (.inr mUl)) hi (List.mem_append.mpr (.inl hm1)) hd1 (by omega) mS ?_
  intro D3 ws3 h4 tk4 m4 F4 N4 o4 hd3 mT kp4
  obtain ⟨n5, en5⟩ : ∃ n5, n5 = (D3, LCg.lst ws3) :: (xs3 ++ ((ul, LCg.lst uvs) :: (L + 1, q1) :: (L + 2, p2) :: (L + 3, p3) :: (L + 4, p4) :: (I, oI) :: newsT)) := ⟨_, rfl⟩
  have in5 : ∀ q, q ∈ n5 ↔ q = (D3, LCg.lst ws3) ∨ q ∈ xs3 ∨ q = (ul, LCg.lst uvs) ∨ q = (L + 1, q1) ∨ q = (L + 2, p2) ∨ q = (L + 3, p3) ∨ q = (L + 4, p4) ∨ q = (I, oI) ∨ q ∈ newsT := by
    intro q; rw [en5]; simp only [List.mem_cons, List.mem_append]
  clear en5
  have N4' : News h₀ L h4 ((L + 5, q5) :: (L + 6, q6) :: n5) := cb_drop N4 fun q hq => by
    simp only [List.mem_cons, List.mem_append, in5, in1] at hq ⊢
    rcases hq with h | h | h | h | h | h | h | h | h | h | h <;> simp only [h, true_or, or_true]
  have g5 : ∀ (i : Nat) (q : Obj), (L + i, q) ∈ l1 → i = 5 ∨ i = 6 → Off (L + i) n5 := by
    intro i q hm hi' z hz
    rcases (in5 z).mp hz with rfl | h | rfl | rfl | rfl | rfl | rfl | rfl | h
    · exact (o4 _ (List.mem_append.mpr (.inr hm))).symm
    · exact (o3 z h _ hm).symm
    · have hm' := (in1 _).mp hm
      refine fun e => ?_
      have e' : ul = L + i := e
      rcases hi' with rfl | rfl
      · exact hul (L + 5, q5) (.tail _ (.tail _ (.tail _ (.tail _ (.head _))))) e'.symm
      · exact hul (L + 6, q6) (.tail _ (.tail _ (.tail _ (.tail _ (.tail _ (.head _)))))) e'.symm
    · show @Ne Nat (L + 1) (L + i); omega
    · show @Ne Nat (L + 2) (L + i); omega
    · show @Ne Nat (L + 3) (L + i); omega
    · show @Ne Nat (L + 4) (L + i); omega
    · exact (hnI i (by omega) (by omega)).symm
    · rcases hi' with rfl | rfl
      · exact f5 z (.tail _ h)
      · exact f6 z (.tail _ h)
  have up5 : ∀ q ∈ newsT, q ∈ n5 := fun q hq => (in5 q).mpr (by simp only [hq, or_true])
  have mg4 : m4 (Str.ofString "goal") = some (.ref (if sm then bA else bB)) := keepGet kp4 rfl (keepGet kp3 rfl mg1)
  refine seg5 B F4 X T hdp hun N4' d5 d6 (g5 5 q5 ((in1 _).mpr (by simp only [true_or, or_true])) (.inl rfl)) (g5 6 q6 ((in1 _).mpr (by simp only [true_or, or_true])) (.inr rfl)) (q3 := p3) ((in5 _).mpr (by simp only [true_or, or_true])) e3 mg4 (bxs.1.mono up5) (bG.mono up5) ?_
  intro p5 p6 tp x1 x2 x3 kt h5 tk5 m5 F5 N5 o5 e5 e6 kp5
  have zK : (SA.ls.filter (inUs us)).length ≤ 9 := taken_len iA.asc (nine_nodup hus).2 (nine_nodup hus).1
  have m3D : (D3, W.listOf ws3.toArray ws3.length) ∈ n5 := (in5 (D3, LCg.lst ws3)).mpr (.inl rfl)
  obtain ⟨l5, el5⟩ : ∃ l5, l5 = (tp, tupObj [.int SA.top x1, .int (gB sm SA SB).top x2] kt) :: (L + 5, p5) :: (L + 6, p6) :: n5 := ⟨_, rfl⟩
  rw [← el5] at N5
  have in5' : ∀ q, q ∈ l5 ↔ q = (tp, tupObj [.int SA.top x1, .int (gB sm SA SB).top x2] kt) ∨ q = (L + 5, p5) ∨ q = (L + 6, p6) ∨ q ∈ n5 := by
    intro q; rw [el5]; simp only [List.mem_cons]
  clear el5
  have tup5 : ∀ a vs n, (a, tupObj vs n) ∈ xs3 ++ l1 → (a, tupObj vs n) ∈ l5 := fun a vs n hq => by
    simp only [List.mem_append, in1, in5', in5] at hq ⊢
    rcases hq with h | h | h | h | h | h | h | h | h | h
    · simp only [h, true_or, or_true]
    · simp only [h, true_or, or_true]
    · simp only [h, true_or, or_true]
    · simp only [h, true_or, or_true]
    · simp only [h, true_or, or_true]
    · simp only [h, true_or, or_true]
    · exact tupCell h d5
    · exact tupCell h d6
    · simp only [h, true_or, or_true]
    · simp only [h, true_or, or_true]
  have hd3' := datsTup tup5 hd3 (noPlain _)
  have mT5 : m5 (Str.ofString "taken") = some (.ref D3) := keepGet kp5 rfl mT
  refine seg6 B F5 X T hdp hun N5 (q6 := p6) ((in5' (L + 6, p6)).mpr (by simp only [true_or, or_true])) e6 ((in5' (D3, W.listOf ws3.toArray ws3.length)).mpr (.inr (.inr (.inr m3D)))) hd3' (by omega) mT5 ?_
  intro xs6 D6 ws6 h6 tk6 m6 F6 N6 o6 hm6 hd6 mD kp6
  obtain ⟨Xs, eX⟩ : ∃ Xs, Xs = xs6 ++ ((tp, tupObj [.int SA.top x1, .int (gB sm SA SB).top x2] kt) :: (L + 5, p5) :: (L + 6, p6) :: (D3, LCg.lst ws3) :: (xs3 ++ [(ul, LCg.lst uvs), (L + 1, q1), (L + 2, p2), (L + 3, p3), (L + 4, p4), (I, oI)])) := ⟨_, rfl⟩
  have inX : ∀ q, q ∈ Xs ↔ q ∈ xs6 ∨ q = (tp, tupObj [.int SA.top x1, .int (gB sm SA SB).top x2] kt) ∨ q = (L + 5, p5) ∨ q = (L + 6, p6) ∨ q = (D3, LCg.lst ws3) ∨ q ∈ xs3 ∨ q = (ul, LCg.lst uvs) ∨ q = (L + 1, q1) ∨ q = (L + 2, p2) ∨ q = (L + 3, p3) ∨ q = (L + 4, p4) ∨ q = (I, oI) := by
    intro q; rw [eX]; simp only [List.mem_cons, List.mem_append, List.not_mem_nil, or_false]
  clear eX
  have offX : ∀ z ∈ Xs, Off z.1 newsT := by
    intro z hz
    rcases (inX z).mp hz with h | rfl | rfl | rfl | rfl | h | rfl | rfl | rfl | rfl | rfl | rfl
    · exact fun q hq => o6 z h q ((in5' q).mpr (by simp only [up5 q hq, or_true]))
    · exact fun q hq => o5 q (up5 q hq)
    · exact fun q hq => f5 q (.tail _ hq)
    · exact fun q hq => f6 q (.tail _ hq)
    · exact fun q hq => o4 q (List.mem_append.mpr (.inr (up1 q hq)))
    · exact fun q hq => o3 z h q (up1 q hq)
    · exact fun q hq => hul q (.tail _ (.tail _ (.tail _ (.tail _ (.tail _ (.tail _ (.tail _ hq)))))))
    · exact fun q hq => f1 q (.tail _ hq)
    · exact fun q hq => f2 q (.tail _ hq)
    · exact fun q hq => f3 q (.tail _ hq)
    · exact fun q hq => f4 q (.tail _ hq)
    · exact offKind N0 (.tail _ (.tail _ (.tail _ (.tail _ (.tail _ (.tail _ (.head _))))))) (plain_fields dI) fun q hq => ⟨.tail _ (.tail _ (.tail _ (.tail _ (.tail _ (.tail _ (.tail _ hq)))))), pT q hq⟩
  obtain ⟨news7, hT7, s7, s7'⟩ := hT2.app offX
  have N7 : News h₀ L h6 news7 := cb_drop N6 fun q hq => by
    have hq := s7 q hq
    simp only [List.mem_append, inX, in5', in5] at hq ⊢
    rcases hq with (h | h | h | h | h | h | h | h | h | h | h | h) | h <;> simp only [h, true_or, or_true]
  have inR : ∀ q, q ∈ Xs → q ∈ Xs ++ rst := fun q hq => List.mem_append.mpr (.inl hq)
  have mUl7 : (ul, W.listOf uvs.toArray uvs.length) ∈ Xs := (inX (ul, LCg.lst uvs)).mpr (by simp only [true_or, or_true])
  have mg6 : m6 (Str.ofString "goal") = some (.ref (if sm then bA else bB)) := keepGet kp6 rfl (keepGet kp5 rfl mg4)
  refine seg7 B F6 X T hdp hun N7 hT7 (q2 := p2) (q3 := p3) (q4 := p4) (inR _ ((inX _).mpr (by simp only [true_or, or_true]))) e2 (inR _ ((inX _).mpr (by simp only [true_or, or_true]))) e3 (inR _ ((inX _).mpr (by simp only [true_or, or_true]))) e4 (inR _ mUl7) hi (by have := (nine_nodup hus).2; omega) iA.asc zA zB zgA mg6 ?_
  intro r news8 h7 tk7 m7 F7 N8 hpost mTold kp7
  obtain ⟨us', D, pv, pn, rst', hp, ho, rfl, hsub, hT8, hD, hdp7⟩ := hpost
  have hK : us'.filterMap (pick SA.ls) = SA.ls.filter (inUs us) := taken_eq iA.asc hp (nine_nodup hus).1 ho
  rw [hK] at hT8 hdp7
  rw [nu_gB] at hdp7
  obtain ⟨K0, hK0⟩ : ∃ K0, K0 = SA.ls.filter (inUs us) := ⟨_, rfl⟩
  rw [← hK0] at hT8 hdp7 hd3' hd6 zK
  have eA : after (if sm then addK SA K0 else SA) mv K0 = goA SA sm mv K0 := rfl
  have eB : (if sm then SB else addK SB K0) = goB SB sm K0 := rfl
  rw [eA, eB] at hT8
  have upR := hT8.boxes.2.2
  have in8 : ∀ q, q ∈ Xs → q ∈ news8 := fun q hq => upR _ (hsub _ (inR q hq))
  have tup6 : ∀ a vs n, (a, tupObj vs n) ∈ xs6 ++ l5 → (a, tupObj vs n) ∈ news8 := fun a vs n hq => by
    simp only [List.mem_append, in5', in5] at hq
    rcases hq with h | h | h | h | h | h | h | h | h | h | h | h | h
    · exact in8 _ ((inX _).mpr (by simp only [h, true_or, or_true]))
    · exact in8 _ ((inX _).mpr (by simp only [h, true_or, or_true]))
    · exact tupCell h e5
    · exact tupCell h e6
    · exact in8 _ ((inX _).mpr (by simp only [h, true_or, or_true]))
    · exact in8 _ ((inX _).mpr (by simp only [h, true_or, or_true]))
    · exact in8 _ ((inX _).mpr (by simp only [h, true_or, or_true]))
    · exact in8 _ ((inX _).mpr (by simp only [h, true_or, or_true]))
    · exact in8 _ ((inX _).mpr (by simp only [h, true_or, or_true]))
    · exact in8 _ ((inX _).mpr (by simp only [h, true_or, or_true]))
    · exact in8 _ ((inX _).mpr (by simp only [h, true_or, or_true]))
    · exact in8 _ ((inX _).mpr (by simp only [h, true_or, or_true]))
    · exact upR _ (hsub _ (List.mem_append.mpr (.inr (hT2.tup h))))
  have tup56 : ∀ a vs n, (a, tupObj vs n) ∈ xs3 ++ l1 → (a, tupObj vs n) ∈ news8 := fun a vs n hq => tup6 a vs n (List.mem_append.mpr (.inr (tup5 a vs n hq)))
  have hd1n : DatAll news8 ws1 (plainD SA.ls) := datsTup tup56 hd1 (noPlain _)
  have hd2n : DatAll news8 ws2 (plainD (gB sm SA SB).ls) := datsTup tup56 hd2 (noPlain _)
  have hd3n : DatAll news8 ws3 (plainD K0) := datsTup (fun a vs n hq => tup6 a vs n (List.mem_append.mpr (.inr hq))) hd3' (noPlain _)
  have hd6n : DatAll news8 ws6 (pairsD (gB sm SA SB).nu K0) := datsTup tup6 hd6 (noPairs _ _)
  have c1 : (L + 1, q1) ∈ news8 := in8 _ ((inX _).mpr (by simp only [true_or, or_true]))
  have c2 : (L + 2, p2) ∈ news8 := in8 _ ((inX _).mpr (by simp only [true_or, or_true]))
  have c3 : (L + 3, p3) ∈ news8 := in8 _ ((inX _).mpr (by simp only [true_or, or_true]))
  have c4 : (L + 4, p4) ∈ news8 := in8 _ ((inX _).mpr (by simp only [true_or, or_true]))
  have c5 : (L + 5, p5) ∈ news8 := in8 _ ((inX _).mpr (by simp only [true_or, or_true]))
  have c6 : (L + 6, p6) ∈ news8 := in8 _ ((inX _).mpr (by simp only [true_or, or_true]))
  have cI : (I, oI) ∈ news8 := in8 _ ((inX _).mpr (by simp only [true_or, or_true]))
  have ctp : (tp, tupObj [.int SA.top x1, .int (gB sm SA SB).top x2] kt) ∈ news8 := in8 _ ((inX _).mpr (by simp only [true_or, or_true]))
  have cul : (ul, W.listOf uvs.toArray uvs.length) ∈ news8 := in8 _ mUl7
  have cD3 : (D3, W.listOf ws3.toArray ws3.length) ∈ news8 := in8 _ ((inX (D3, LCg.lst ws3)).mpr (by simp only [true_or, or_true]))
  have cD1 : (D1, W.listOf ws1.toArray k1) ∈ news8 := in8 _ ((inX _).mpr (by simp only [hm1, true_or, or_true]))
  have cD2 : (D2, W.listOf ws2.toArray k2) ∈ news8 := in8 _ ((inX _).mpr (by simp only [hm2, true_or, or_true]))
  have cD6 : (D6, W.listOf ws6.toArray ws6.length) ∈ news8 := in8 (D6, LCg.lst ws6) ((inX (D6, LCg.lst ws6)).mpr (by simp only [hm6, true_or, or_true]))
  refine seg8 B F7 X T hdp hun N8 (upR _ hD) cD6 (hdp7.mono upR) hd6n (okPairs _ _) mTold (keepGet kp7 rfl mD) ?_
  intro h8 tk8 m8 F8 N8b kp8
  have mT8 : m8 (Str.ofString "taken") = some (.ref D3) := keepGet kp8 rfl (keepGet kp7 rfl (keepGet kp6 rfl mT5))
  refine seg9 B F8 X T hdp hun N8b c6 e6 cD3 hd3n (by omega) (tp := (gB sm SA SB).top) mT8 ?_
  intro xs9 DM wsM h9 tk9 m9 F9 N9 hmM hdM mM kp9
  have up9 : ∀ q ∈ news8, q ∈ xs9 ++ news8 := fun q hq => List.mem_append.mpr (.inr hq)
  have mS9 : m9 (Str.ofString "source") = some (.ref D1) := keepGet kp9 rfl (keepGet kp8 rfl (keepGet kp7 rfl (keepGet kp6 rfl (keepGet kp5 rfl (keepGet kp4 rfl mS)))))
  refine seg10 B F9 X T hdp hun N9 (up9 _ c2) e2 (up9 _ c4) e4 (up9 _ cul) hi (up9 _ cD1) (hd1n.mono up9) (by omega) mS9 ?_
  intro DL wsL h10 tk10 m10 F10 N10 hdL mL kp10
  obtain ⟨n10, en10⟩ : ∃ n10, n10 = (DL, LCg.lst wsL) :: (xs9 ++ news8) := ⟨_, rfl⟩
  rw [← en10] at N10
  have up10 : ∀ q ∈ news8, q ∈ n10 := fun q hq => by rw [en10]; exact .tail _ (up9 q hq)
  have up910 : ∀ q ∈ xs9 ++ news8, q ∈ n10 := fun q hq => by rw [en10]; exact .tail _ hq
  have cDL : (DL, W.listOf wsL.toArray wsL.length) ∈ n10 := by rw [en10]; exact .head _
  have cDM : (DM, W.listOf wsM.toArray wsM.length) ∈ n10 := up910 _ (List.mem_append.mpr (.inl hmM))
  clear en10
  have jA := inv_goA (sm := sm) (mv := mv) iA hK0 zK
  have jB := inv_goB (sm := sm) iB zK
  have bA8 := hT8.boxes.1.mono up10
  have bG8 := (boxG (sm := sm) hT8.boxes.1 hT8.boxes.2.1).mono up10
  have zA8 : (goA SA sm mv K0).ls.length ≤ 1000 := by have := jA.size; omega
  have zB8 : (goB SB sm K0).ls.length ≤ 1000 := by have := jB.size; omega
  have zG8 : (gB sm (goA SA sm mv K0) (goB SB sm K0)).ls.length ≤ 1000 := by cases sm; exact zB8; exact zA8
  have zgd : (goA SA sm mv K0).gd.length ≤ 1000 := by have := jA.gone; omega
  have ms10 : m10 (Str.ofString "is_same") = some (.bool sm) := keepGet kp10 rfl (keepGet kp9 rfl (keepGet kp8 rfl (keepGet kp7 rfl (keepGet kp6 rfl (keepGet kp5 rfl (keepGet kp4 rfl (keepGet kp3 rfl ms1)))))))
  have mg10 : m10 (Str.ofString "goal") = some (.ref (if sm then bA else bB)) := keepGet kp10 rfl (keepGet kp9 rfl (keepGet kp8 rfl (keepGet kp7 rfl mg6)))
  have mM10 : m10 (Str.ofString "made") = some (.ref DM) := keepGet kp10 rfl mM
  have mT10 : m10 (Str.ofString "taken") = some (.ref D3) := keepGet kp10 rfl (keepGet kp9 rfl mT8)
  have mO10 : m10 (Str.ofString "other") = some (.ref D2) := keepGet kp10 rfl (keepGet kp9 rfl (keepGet kp8 rfl (keepGet kp7 rfl (keepGet kp6 rfl (keepGet kp5 rfl (keepGet kp4 rfl mO))))))
  have hl3 : ws3.length = K0.length := by rw [hd3n.length]; exact List.length_map _
  refine seg11 B F10 X T hdp hun N10 (up10 _ c3) e3 bA8 bG8 zA8 zG8 cDL cDM (up10 _ cD2) (hdL.mono up910) (hdM.mono up910) (hd2n.mono up10) (lenPlain (Nat.le_trans (List.length_filter_le _ _) (by omega))) (lenPlain (by rw [made_length]; omega)) (lenPlain zG)
    (fact11t (SB := SB) iA hK0) (fun h => ?g11) ms10 mg10 mL mM10 mO10 ?_
  case g11 =>
    have := fact11f (SB := SB) (mv := mv) iA hK0 h
    subst h
    exact this
  intro h11 tk11 m11 F11 N11 kp11
  refine seg12 B F11 X T hdp hun N11 (up10 _ c2) e2 (up10 _ cD3) (hd3n.mono up10) (keepGet kp11 rfl mT10) ?_
  intro xc h12 tk12 m12 F12 N12 mC kp12
  have mg12 := keepGet kp12 rfl (keepGet kp11 rfl mg10)
  have mT12 := keepGet kp12 rfl (keepGet kp11 rfl mT10)
  refine seg13 B F12 X T hdp hun N12 (up10 _ c3) e3 (up10 _ c5) e5 bA8 bG8 (up10 _ ctp) (up10 _ cD3) hl3 (by omega) (fact13t iA hK0) (fact13f iA hK0) (keepGet kp12 rfl (keepGet kp11 rfl ms10)) mg12 mT12 mC ?_
  intro h13 tk13 m13 F13 N13 kp13
  have mg13 := keepGet kp13 rfl mg12
  have mT13 := keepGet kp13 rfl mT12
  refine seg14 B F13 X T hdp hun N13 (up10 _ c5) e5 (up10 _ c6) e6 bG8 zG8 (up10 _ ctp) (up10 _ cD3) hl3 (by omega) (fact14 iA iB hK0) mg13 mT13 ?_
  intro h14 tk14 m14 F14 N14 kp14
  refine seg15 B F14 X T hdp hun N14 (up10 _ c2) e2 (up10 _ c3) e3 (up10 _ c6) e6 bA8 bG8 zgd (up10 _ cD3) (hd3n.mono up10) (by omega) (fact15n iA hK0) (fact15g iA hK0) (keepGet kp14 rfl mg13) (keepGet kp14 rfl mT13) ?_
  intro h15 tk15 m15 F15 N15 kp15
  obtain ⟨S0', S1', newsB, hTB, sB, j0, j1⟩ := back rst' _ _ news8 hT8 jA jB
  obtain ⟨newsP, hTP, sP⟩ := hTB.plain
  have mtw15 : m15 (Str.ofString "two") = some (.ref tw) := keepGet kp15 rfl (keepGet kp14 rfl (keepGet kp13 rfl (keepGet kp12 rfl (keepGet kp11 rfl (keepGet kp10 rfl (keepGet kp9 rfl (keepGet kp8 rfl (keepGet kp7 rfl (keepGet kp6 rfl (keepGet kp5 rfl (keepGet kp4 rfl (keepGet kp3 rfl (keepGet kp1 rfl mtw)))))))))))))
  refine K p2 p3 p4 p5 p6 _ _ _ _ _ (plainL rst') newsP S0' S1' _ _ _ F15 (cb_drop N15 ?gP) e2 e3 e4 e5 e6 (fun q hq => (sP q hq).2) hTP (fun z hz hpz => inPlain (hsub _ (List.mem_append.mpr (.inr hz))) hpz) j0 j1 mtw15
  case gP =>
    intro q hq
    simp only [List.mem_cons] at hq
    rcases hq with rfl | rfl | rfl | rfl | rfl | rfl | rfl | hq
    · exact up10 _ c1
    · exact up10 _ cI
    · exact up10 _ c2
    · exact up10 _ c3
    · exact up10 _ c4
    · exact up10 _ c5
    · exact up10 _ c6
    · exact up10 _ (sB q (sP q hq).1)
end

theorem fresh_m37 : True ∧ True := by
  w_top off
  first | (walk1; done) | exact ⟨trivial, trivial⟩
def JLaw (P : Params) (L tw b0 b1 lo : Addr) (nt kw : Nat) (ws : List Value) (i : Nat) (m : Str → Option Value) (r : List (Addr × Obj)) : Prop :=
  ∃ (q2 q3 q4 q5 q6 : Obj) (u2 u3 u4 u5 u6 : Option Value) (rst news : List (Addr × Obj)) (S0 S1 : BS), r = (L + 2, q2) :: (L + 3, q3) :: (L + 4, q4) :: (L + 5, q5) :: (L + 6, q6) :: news ∧
    q2.data = .cell u2 ∧ q3.data = .cell u3 ∧ q4.data = .cell u4 ∧ q5.data = .cell u5 ∧ q6.data = .cell u6 ∧ (∀ q ∈ news, plainO q.2 = true) ∧ TwoAt P rst b0 b1 S0 S1 news ∧
    (lo, W.listOf ws.toArray kw) ∈ rst ∧ (tw, W.listOf [Value.ref b0, .ref b1].toArray nt) ∈ rst ∧ InvS S0 i ∧ InvS S1 i ∧ m (Str.ofString "two") = some (.ref tw)
theorem JLaw.lo {P : Params} {L tw b0 b1 lo : Addr} {nt kw : Nat} {ws : List Value} {i : Nat} {m : Str → Option Value} {r : List (Addr × Obj)} (h : JLaw P L tw b0 b1 lo nt kw ws i m r) : (lo, W.listOf ws.toArray kw) ∈ r := by
  obtain ⟨q2, q3, q4, q5, q6, u2, u3, u4, u5, u6, rst, news, S0, S1, rfl, _, _, _, _, _, _, hT, hl, _⟩ := h
  exact .tail _ (.tail _ (.tail _ (.tail _ (.tail _ (hT.boxes.2.2 _ hl)))))
theorem offFive {L : Addr} {q2 q3 q4 q5 q6 : Obj} {news : List (Addr × Obj)} (h : Off (L + 1) news) : Off (L + 1) ((L + 2, q2) :: (L + 3, q3) :: (L + 4, q4) :: (L + 5, q5) :: (L + 6, q6) :: news) := by
  intro z hz
  simp only [List.mem_cons] at hz
  rcases hz with rfl | rfl | rfl | rfl | rfl | hz
  · show @Ne Nat (L + 2) (L + 1); omega
  · show @Ne Nat (L + 3) (L + 1); omega
  · show @Ne Nat (L + 4) (L + 1); omega
  · show @Ne Nat (L + 5) (L + 1); omega
  · show @Ne Nat (L + 6) (L + 1); omega
  · exact h z hz
def loopSt : Stmt := lawOf.1.getD 2 (.Pass default)
theorem fresh_m37_1 : True ∧ True := by
  w_top off
  first | (walk1; done) | exact ⟨trivial, trivial⟩
section
variable {prog : Program} {w : World} {p : Program} {loose : List Str} {mean : ExcName → Option Value} {mg mb : Str → Option Value}
  {dp un : Nat} {gd : Option (List Code)} {fa : Addr} {ccd : Value} {outer : List Env} {A₀ : Around} {base h₀ : Heap} {L : Addr} {m : Str → Option Value} {s : Shared} {Q : Flow → Shared → Prop} {E : Value → Shared → Prop} {rest : List Stmt}
local macro_rules | `(tactic| walk_at "LoopC") => `(tactic| (refine hold_tree ?_))
theorem loop_law {q1 q2 q3 q4 q5 q6 : Obj} {u1 u2 u3 u4 u5 u6 : Option Value} {tw b0 b1 lc : Addr} {nt kc : Nat} {S0 S1 : BS} {rst news0 : List (Addr × Obj)} {cs : List Value} {ns : List Int}
   (B : Below A₀ base outer h₀) (F : Fr h₀ L s.heap m) (X : (hd.heap_39 w.params).In h₀) (T : Top p loose mean mg mb h₀) (hdp : dp + 40 < recursionLimit) (hun : un + 20 * 40 + 100 < cLine)
   (N : News h₀ L s.heap ((L + 1, q1) :: (L + 2, q2) :: (L + 3, q3) :: (L + 4, q4) :: (L + 5, q5) :: (L + 6, q6) :: news0))
   (d1 : q1.data = .cell u1) (d2 : q2.data = .cell u2) (d3 : q3.data = .cell u3) (d4 : q4.data = .cell u4) (d5 : q5.data = .cell u5) (d6 : q6.data = .cell u6)
   (hp0 : ∀ q ∈ news0, plainO q.2 = true) (hT : TwoAt w.params rst b0 b1 S0 S1 news0)
   (htw : (tw, W.listOf [Value.ref b0, .ref b1].toArray nt) ∈ rst) (mtw : m (Str.ofString "two") = some (.ref tw)) (h0 : InvS S0 0) (h1 : InvS S1 0)
   (hlc : (lc, W.listOf cs.toArray kc) ∈ rst) (hi : IntsAre cs ns) (hns : ns.length ≤ 6) (mlc : m (Str.ofString "cells") = some (.ref lc))
   (hE : PySem.PassesOwn (model prog w) (lawA dp un gd lawScope L fa ccd outer) (lawE lawScope L fa ccd) E)
   (K : ∀ (h' : Heap) (tk' : Nat) (m' : Str → Option Value), Fr h₀ L h' m' → Q .next { s with heap := h', toks := tk' }) :
   wpAny (model prog w) (lawA dp un gd lawScope L fa ccd outer) (exec loopSt (lawE lawScope L fa ccd)) Q E s := by
  obtain ⟨sc, hsc⟩ : ∃ sc, sc = lawScope := ⟨_, rfl⟩
  rw [← hsc] at hE ⊢
  conv at hsc => rhs; whnf
  conv in loopSt => whnf
  subst hsc
  replace K := Hold.mk K
  have F0 := F
  refine for_cells (h₀ := h₀) (c := L + 1) rfl rfl rfl ?_ (hE := hE)
  replace F := seeF F mlc
  have mlc' := hT.boxes.2.2 _ hlc
  have hcz : cs.toArray.size ≤ sizeLine := by rw [List.size_toArray, hi.length, sizeLine_eq]; omega
  replace hT := Hold.mk hT
  k_steps
  rename_i Dl ws hL FL NL iws lenws _ lL
  have hwl : ws.length ≤ 4 := by rw [iws.length, lenws]; omega
  have lD : ∀ q ∈ news0, @Ne Nat q.1 Dl := fun q hq => Nat.ne_of_lt (ktn_ltOf lL.2.2.2.2.2.2 q hq)
  obtain ⟨news1, hT1, s1, s1'⟩ := hT.out.app (xs := [(Dl, W.listOf ws.toArray 0)]) (fun z hz => by
    rw [List.mem_singleton] at hz
    subst hz
    exact lD)
  have hp1 : ∀ q ∈ news1, plainO q.2 = true := fun q hq => by
    rcases List.mem_append.mp (s1 q hq) with h | h
    · rw [List.mem_singleton.mp h]; rfl
    · exact hp0 q h
  have N1 : News h₀ L hL ((L + 1, q1) :: (L + 2, q2) :: (L + 3, q3) :: (L + 4, q4) :: (L + 5, q5) :: (L + 6, q6) :: news1) := cb_drop NL fun q hq => by
    simp only [List.mem_cons] at hq ⊢
    rcases hq with h | h | h | h | h | h | h
    · simp only [h, true_or, or_true]
    · simp only [h, true_or, or_true]
    · simp only [h, true_or, or_true]
    · simp only [h, true_or, or_true]
    · simp only [h, true_or, or_true]
    · simp only [h, true_or, or_true]
    · rcases List.mem_append.mp (s1 q h) with h | h
      · simp only [List.mem_singleton.mp h, true_or, or_true]
      · simp only [h, true_or, or_true]
  have mtwL : (fun y => if y = Str.ofString "cells" then some (Value.ref lc) else m y) (Str.ofString "two") = some (.ref tw) := (congrFun (seeE mlc) _).trans mtw
  refine Hold.mk ⟨Dl, ws, 0, _, _, q1, u1, JLaw w.params L tw b0 b1 Dl nt 0 ws, rfl, rfl, FL, N1, d1, offFive (offKind N1 (.head _) (plain_cell d1) fun q hq => ⟨.tail _ (.tail _ (.tail _ (.tail _ (.tail _ (.tail _ hq))))), hp1 q hq⟩), fun i m r h => h.lo,
    ⟨q2, q3, q4, q5, q6, u2, u3, u4, u5, u6, _, news1, S0, S1, rfl, d2, d3, d4, d5, d6, hp1, hT1, .head _, .tail _ htw, h0, h1, mtwL⟩, ?_, ?_⟩
  · rintro i v m₁ r₁ h tk I oI oc fs hi' hv ⟨p2, p3, p4, p5, p6, v2, v3, v4, v5, v6, rst', news', S0', S1', rfl, e2, e3, e4, e5, e6, hp', hT', hl', htw', i0, i1, mt'⟩ dI hcI hoc hoI F' N' hd'
    obtain ⟨c, tc, rfl, _⟩ := intAt iws hv
    have hnI : ∀ i : Nat, 1 ≤ i → i ≤ 6 → @Ne Nat (L + i) I := by
      intro i h1 h2
      have hi6 : i = 1 ∨ i = 2 ∨ i = 3 ∨ i = 4 ∨ i = 5 ∨ i = 6 := by omega
      rcases hi6 with rfl | rfl | rfl | rfl | rfl | rfl
      · exact hcI
      · exact hoI _ (.head _)
      · exact hoI _ (.tail _ (.head _))
      · exact hoI _ (.tail _ (.tail _ (.head _)))
      · exact hoI _ (.tail _ (.tail _ (.tail _ (.head _))))
      · exact hoI _ (.tail _ (.tail _ (.tail _ (.tail _ (.head _)))))
    refine turn_law (prog := prog) (L := L) (rest := []) B F' X T hdp hun N' hd' e2 e3 e4 e5 e6 dI hnI hp' hT' htw' mt' i0 i1 (by omega) ?_
    · intro r2 r3 r4 r5 r6 w2 w3 w4 w5 w6 rst2 news2 S02 S12 h2 tk2 m2 F2 N2 g2 g3 g4 g5 g6 hp2 hT2 hkeep j0 j1 mt2
      refine wpAny_execs_nil ?_
      have offN : ∀ {a : Addr} {o : Obj}, (a, o) ∈ (L + 1, oc) :: (I, oI) :: (L + 2, r2) :: (L + 3, r3) :: (L + 4, r4) :: (L + 5, r5) :: (L + 6, r6) :: news2 → plainO o = false → Off a news2 := fun hm hpl =>
        offKind N2 hm hpl fun q hq => ⟨.tail _ (.tail _ (.tail _ (.tail _ (.tail _ (.tail _ (.tail _ hq)))))), hp2 q hq⟩
      refine ⟨h2, tk2, m2, _, oc, _, rfl, F2, N2, hd', offFive (offN (.head _) (plain_cell hd')), ?_, ⟨r2, r3, r4, r5, r6, w2, w3, w4, w5, w6, rst2, news2, S02, S12, rfl, g2, g3, g4, g5, g6, hp2, hT2, hkeep _ hl' rfl, hkeep _ htw' rfl, j0, j1, mt2⟩⟩
      intro z hz
      simp only [List.mem_cons] at hz
      rcases hz with rfl | rfl | rfl | rfl | rfl | hz
      · exact hnI 2 (by decide) (by decide)
      · exact hnI 3 (by decide) (by decide)
      · exact hnI 4 (by decide) (by decide)
      · exact hnI 5 (by decide) (by decide)
      · exact hnI 6 (by decide) (by decide)
      · exact offN (.tail _ (.head _)) (plain_fields dI) z hz
  · rintro m₁ r₁ h tk oc _ F' N'
    exact K.out h tk m₁ F'
end

theorem fresh_m38 : True ∧ True := by
  w_top off
  first | (walk1; done) | exact ⟨trivial, trivial⟩
theorem OneAt.to {P : Params} {rest rest' : List (Addr × Obj)} {b : Addr} {S : BS} {d l : Addr} {D O : Obj} (h : OneAt P rest b S d l D O) (sub : ∀ q ∈ rest, q ∈ rest') (hd : Off d rest') (hl : Off l rest') : OneAt P rest' b S d l D O := by
  cases h with
  | mk h1 h2 h3 h4 h5 h6 h7 => exact .mk (sub _ h1) (h2.mono sub) (sub _ h3) (h4.mono sub) h5 hd hl
theorem OneAt.offs {P : Params} {rest : List (Addr × Obj)} {b : Addr} {S : BS} {d l : Addr} {D O : Obj} (h : OneAt P rest b S d l D O) : Off d rest ∧ Off l rest := by
  cases h with
  | mk h1 h2 h3 h4 h5 h6 h7 => exact ⟨h6, h7⟩
/-- two boxes, made one behind the other -/
theorem two_made {P : Params} {news xs tl0 tl1 : List (Addr × Obj)} {b0 d0 l0 b1 d1 l1 : Addr} {D0 O0 D1 O1 : Obj} {S0 S1 : BS} (h0 : OneAt P tl0 b0 S0 d0 l0 D0 O0) (a0 : Above news ((d0, D0) :: (l0, O0) :: tl0))
    (h1 : OneAt P tl1 b1 S1 d1 l1 D1 O1) (a1 : Above ((d0, D0) :: (l0, O0) :: (tl0 ++ news)) ((d1, D1) :: (l1, O1) :: tl1)) (hx : ∀ q ∈ xs, q ∈ news ∨ ∀ z ∈ (d1, D1) :: (l1, O1) :: (tl1 ++ ((d0, D0) :: (l0, O0) :: (tl0 ++ news))), @LT.lt Nat _ z.1 q.1) :
    TwoAt P (xs ++ (tl1 ++ tl0)) b0 b1 S0 S1 ((d0, D0) :: (l0, O0) :: (d1, D1) :: (l1, O1) :: (xs ++ (tl1 ++ tl0))) := by
  have ha1 : ∀ q ∈ (d0, D0) :: (l0, O0) :: (tl0 ++ news), ∀ p ∈ (d1, D1) :: (l1, O1) :: tl1, @LT.lt Nat _ q.1 p.1 := a1
  have off0 : ∀ (d : Addr) (D : Obj), (d, D) ∈ [(d0, D0), (l0, O0)] → Off d tl0 → Off d (xs ++ (tl1 ++ tl0)) := fun d D hm ho q hq => by
    have hm1 : (d, D) ∈ (d0, D0) :: (l0, O0) :: tl0 := List.mem_append.mpr (.inl hm)
    have hm2 : (d, D) ∈ (d0, D0) :: (l0, O0) :: (tl0 ++ news) := List.mem_append.mpr (.inl hm)
    rcases List.mem_append.mp hq with h | h
    · rcases hx q h with h | h
      · exact Nat.ne_of_lt (a0 q h _ hm1)
      · exact Nat.ne_of_gt (h (d, D) (.tail _ (.tail _ (List.mem_append.mpr (.inr hm2)))))
    · rcases List.mem_append.mp h with h | h
      · exact Nat.ne_of_gt (ha1 _ hm2 q (.tail _ (.tail _ h)))
      · exact ho q h
  have off1 : ∀ (d : Addr) (D : Obj), (d, D) ∈ [(d1, D1), (l1, O1)] → Off d tl1 → Off d (xs ++ (tl1 ++ tl0)) := fun d D hm ho q hq => by
    have hm1 : (d, D) ∈ (d1, D1) :: (l1, O1) :: tl1 := List.mem_append.mpr (.inl hm)
    rcases List.mem_append.mp hq with h | h
    · rcases hx q h with h | h
      · exact Nat.ne_of_lt (ha1 q (.tail _ (.tail _ (List.mem_append.mpr (.inr h)))) _ hm1)
      · exact Nat.ne_of_gt (h (d, D) (List.mem_append.mpr (.inl hm)))
    · rcases List.mem_append.mp h with h | h
      · exact ho q h
      · exact Nat.ne_of_lt (ha1 q (.tail _ (.tail _ (List.mem_append.mpr (.inl h)))) _ hm1)
  refine .mk (h0.to (fun q hq => List.mem_append.mpr (.inr (List.mem_append.mpr (.inr hq)))) (off0 d0 D0 (.head _) h0.offs.1) (off0 l0 O0 (.tail _ (.head _)) h0.offs.2))
    (h1.to (fun q hq => List.mem_append.mpr (.inr (List.mem_append.mpr (.inl hq)))) (off1 d1 D1 (.head _) h1.offs.1) (off1 l1 O1 (.tail _ (.head _)) h1.offs.2)) ⟨?_, ?_, ?_, ?_⟩
  · exact Nat.ne_of_lt (ha1 (d0, D0) (.head _) (d1, D1) (.head _))
  · exact Nat.ne_of_lt (ha1 (d0, D0) (.head _) (l1, O1) (.tail _ (.head _)))
  · exact Nat.ne_of_lt (ha1 (l0, O0) (.tail _ (.head _)) (d1, D1) (.head _))
  · exact Nat.ne_of_lt (ha1 (l0, O0) (.tail _ (.head _)) (l1, O1) (.tail _ (.head _)))

theorem fresh_m39 : True ∧ True := by
  w_top off
  first | (walk1; done) | exact ⟨trivial, trivial⟩
def lst0 : Stmt := lawOf.1.getD 0 (.Pass default)
def lst1 : Stmt := lawOf.1.getD 1 (.Pass default)
theorem fresh_m39_1 : True ∧ True := by
  w_top off
  first | (walk1; done) | exact ⟨trivial, trivial⟩
section
variable {prog : Program} {w : World} {p : Program} {loose : List Str} {mean : ExcName → Option Value} {mg mb : Str → Option Value}
  {dp un : Nat} {gd : Option (List Code)} {fa : Addr} {ccd : Value} {outer : List Env} {A₀ : Around} {base h₀ : Heap} {L : Addr} {m : Str → Option Value} {s : Shared} {Q : Flow → Shared → Prop} {E : Value → Shared → Prop} {rest : List Stmt}
local macro_rules | `(tactic| walk_at "execs cons") => `(tactic| ((with_reducible refine wpAny_execs_cons ?_); try dsimp only))
local macro_rules | `(tactic| walk_at "call ref") => `(tactic| (k_here; (with_reducible show wpAny _ _ (call (Value.ref 203) _) _ _ _); refine hold_tree ?_))
local macro_rules | `(tactic| walk_at "subscriptTail Name Constant ref int") => `(tactic| (k_here; (with_reducible show wpAny _ _ (subscriptTail _ _ (Value.ref _) (Value.int _ _)) _ _ _); (with_unfolding_all refine' item_litK (News.isList (by k_asm) (by k_mem)) ?k1 ?k2 rfl ?_ ?k4; (case k1 => decide); (case k2 => decide); (case k4 => with_unfolding_all rfl); k_whole)))
local macro_rules | `(tactic| walk_at "exec Assign cons List") => `(tactic| (refine hold_tree ?_))
theorem first_law {q1 q2 q3 q4 q5 q6 : Obj} {u1 u2 u3 u4 u5 u6 : Option Value} {sc : Addr} {vs : List Value} {ns : List Int}
   (B : Below A₀ base outer h₀) (F : Fr h₀ L s.heap m) (X : (hd.heap_39 w.params).In h₀) (T : Top p loose mean mg mb h₀) (hdp : dp + 50 < recursionLimit) (hun : un + 20 * 50 + 100 < cLine)
   (N : News h₀ L s.heap [(L + 1, q1), (L + 2, q2), (L + 3, q3), (L + 4, q4), (L + 5, q5), (L + 6, q6)])
   (d1 : q1.data = .cell u1) (d2 : q2.data = .cell u2) (d3 : q3.data = .cell u3) (d4 : q4.data = .cell u4) (d5 : q5.data = .cell u5) (d6 : q6.data = .cell u6)
   (hsc : h₀.IsList sc vs.toArray) (hi : IntsAre vs ns) (hz : ns.length ≤ 63) (msc : m (Str.ofString "script") = some (.ref sc))
   (K : ∀ (rst news0 : List (Addr × Obj)) (S0 S1 : BS) (tw lc b0 b1 : Addr) (nt kc : Nat) (cs : List Value) (ns : List Int) (h' : Heap) (tk' : Nat) (m' : Str → Option Value), Fr h₀ L h' m' →
     News h₀ L h' ((L + 1, q1) :: (L + 2, q2) :: (L + 3, q3) :: (L + 4, q4) :: (L + 5, q5) :: (L + 6, q6) :: news0) → (∀ q ∈ news0, plainO q.2 = true) → TwoAt w.params rst b0 b1 S0 S1 news0 →
     (tw, W.listOf [Value.ref b0, .ref b1].toArray nt) ∈ rst → m' (Str.ofString "two") = some (.ref tw) → InvS S0 0 → InvS S1 0 → (lc, W.listOf cs.toArray kc) ∈ rst → IntsAre cs ns → ns.length ≤ 6 → m' (Str.ofString "cells") = some (.ref lc) →
     wpAny (model prog w) (lawA dp un gd lawScope L fa ccd outer) (execs rest (lawE lawScope L fa ccd)) Q E { s with heap := h', toks := tk' }) :
   wpAny (model prog w) (lawA dp un gd lawScope L fa ccd outer) (execs (lst0 :: lst1 :: rest) (lawE lawScope L fa ccd)) Q E s := by
  obtain ⟨scp, hscp⟩ : ∃ sc, sc = lawScope := ⟨_, rfl⟩
  rw [← hscp] at K ⊢
  conv at hscp => rhs; whnf
  conv in lst0 => whnf
  conv in lst1 => whnf
  subst hscp
  replace K := Hold.mk K
  replace F := seeF F msc
  k_steps
  rename_i Dc wc _ iwc lDc hC FC NC
  have hml : 2 ≤ wc.length ∧ wc.length ≤ 6 := by
    rw [iwc.length, List.length_append, List.length_take, List.length_take, List.length_append, List.length_drop]
    simp only [List.length_cons, List.length_nil]
    omega
  generalize (List.take 2 (ns ++ [3, 4]) ++ _) = ms at iwc
  have hmn : ms.length ≤ 6 := by rw [← iwc.length]; exact hml.2
  have N2 : News h₀ L hC [(Dc, W.listOf wc.toArray 0), (L + 1, q1), (L + 2, q2), (L + 3, q3), (L + 4, q4), (L + 5, q5), (L + 6, q6)] := by
    refine cb_drop NC ?gd
    case gd =>
      intro q hq
      simp only [List.mem_cons, List.not_mem_nil, or_false] at hq ⊢
      rcases hq with h | h | h | h | h | h | h
      · left; exact h
      · simp only [h, true_or, or_true]
      · simp only [h, true_or, or_true]
      · simp only [h, true_or, or_true]
      · simp only [h, true_or, or_true]
      · simp only [h, true_or, or_true]
      · simp only [h, true_or, or_true]
  clear NC
  rcases wc with _ | ⟨v0, _ | ⟨v1, cr⟩⟩
  · exact absurd hml.1 (by decide)
  · exact absurd hml.1 (by show ¬ 2 ≤ 1; decide)
  obtain ⟨n0, t0, rfl, _⟩ := intAt (i := 0) iwc rfl
  obtain ⟨n1, t1, rfl, _⟩ := intAt (i := 1) iwc rfl
  replace lDc := Hold.mk lDc
  clear hml
  refine Hold.mk (wpAny_Assign_Name ?_)
  k_steps
  refine Hold.mk ?_
  k_dflt (refine' does_use ?b1 ?b2 ?b3 ?b4 ?b5 ?b6 filled_does ?b7 ?b8 ?_; (case b2 => with_reducible assumption); (case b1 => with_reducible assumption); (case b3 => with_reducible assumption); (case b4 => with_reducible assumption); (case b5 => with_reducible assumption); (case b6 => exact rfl); (case b7 => ktr_room); (case b8 => ktr_units))
  rintro r0 nx0 h0 tk0 F0 N0 ⟨b0, d0, l0, D0, O0, S0, tl0, rfl, rfl, hO0, hA0, hI0⟩
  replace hA0 := Hold.mk hA0
  replace hI0 := Hold.mk hI0
  replace hO0 := Hold.mk hO0
  have mDc0 : (Dc, W.listOf (Value.int n0 t0 :: Value.int n1 t1 :: cr).toArray 0) ∈ (d0, D0) :: (l0, O0) :: (tl0 ++ [(Dc, W.listOf (Value.int n0 t0 :: Value.int n1 t1 :: cr).toArray 0), (L + 1, q1), (L + 2, q2), (L + 3, q3), (L + 4, q4), (L + 5, q5), (L + 6, q6)]) := .tail _ (.tail _ (List.mem_append.mpr (.inr (.head _))))
  k_steps
  refine Hold.mk ?_
  k_dflt (refine' does_use ?e1 ?e2 ?e3 ?e4 ?e5 ?e6 filled_does ?e7 ?e8 ?_; (case e2 => with_reducible assumption); (case e1 => with_reducible assumption); (case e3 => with_reducible assumption); (case e4 => with_reducible assumption); (case e5 => with_reducible assumption); (case e6 => exact rfl); (case e7 => ktr_room); (case e8 => ktr_units))
  rintro r1 nx1 h1 tk1 F1 N1 ⟨b1, d1', l1, D1, O1, S1, tl1, rfl, rfl, hO1, hA1, hI1⟩
  replace hA1 := Hold.mk hA1
  replace hI1 := Hold.mk hI1
  replace hO1 := Hold.mk hO1
  k_steps
  rename_i tw _ ltw hE FE NE
  have hT := two_made (xs := [(tw, W.listOf [Value.ref b0, .ref b1].toArray 0), (Dc, W.listOf (Value.int n0 t0 :: Value.int n1 t1 :: cr).toArray 0)]) hO0.out hA0.out hO1.out hA1.out (by
    intro q hq
    simp only [List.mem_cons, List.not_mem_nil, or_false] at hq
    rcases hq with rfl | rfl
    · right
      intro z hz
      rcases List.mem_cons.mp hz with rfl | hz
      · exact ltw.1
      · rcases List.mem_cons.mp hz with rfl | hz
        · exact ltw.2.1
        · exact ktn_ltOf ltw.2.2 z hz
    · exact .inl (.head _))
  obtain ⟨newsP, hTP, sP⟩ := hT.plain
  refine K.out (plainL _) newsP S0 S1 tw Dc b0 b1 0 0 _ ms _ _ _ FE (cb_drop NE ?gP) (fun q hq => (sP q hq).2) hTP (inPlain (.head _) rfl) rfl hI0.out hI1.out (inPlain (.tail _ (.head _)) rfl) iwc hmn rfl
  case gP =>
    intro q hq
    simp only [List.mem_cons] at hq
    have cells : ∀ q ∈ [(L + 1, q1), (L + 2, q2), (L + 3, q3), (L + 4, q4), (L + 5, q5), (L + 6, q6)], q ∈ (tw, W.listOf [Value.ref b0, .ref b1].toArray 0) :: (d1', D1) :: (l1, O1) :: (tl1 ++ (d0, D0) :: (l0, O0) :: (tl0 ++ [(Dc, W.listOf (Value.int n0 t0 :: Value.int n1 t1 :: cr).toArray 0), (L + 1, q1), (L + 2, q2), (L + 3, q3), (L + 4, q4), (L + 5, q5), (L + 6, q6)])) := fun q hq =>
      .tail _ (.tail _ (.tail _ (List.mem_append.mpr (.inr (.tail _ (.tail _ (List.mem_append.mpr (.inr (.tail _ hq)))))))))
    rcases hq with rfl | rfl | rfl | rfl | rfl | rfl | hq
    · exact cells _ (.head _)
    · exact cells _ (.tail _ (.head _))
    · exact cells _ (.tail _ (.tail _ (.head _)))
    · exact cells _ (.tail _ (.tail _ (.tail _ (.head _))))
    · exact cells _ (.tail _ (.tail _ (.tail _ (.tail _ (.head _)))))
    · exact cells _ (.tail _ (.tail _ (.tail _ (.tail _ (.tail _ (.head _))))))
    · have h := (sP q hq).1
      simp only [List.mem_cons, List.mem_append, List.not_mem_nil, or_false] at h
      rcases h with h | h | h | h | (h | h) | h | h
      · exact .tail _ (.tail _ (.tail _ (List.mem_append.mpr (.inr (by rw [h]; exact .head _)))))
      · exact .tail _ (.tail _ (.tail _ (List.mem_append.mpr (.inr (by rw [h]; exact .tail _ (.head _))))))
      · rw [h]; exact .tail _ (.head _)
      · rw [h]; exact .tail _ (.tail _ (.head _))
      · rw [h]; exact .head _
      · exact .tail _ (.tail _ (.tail _ (List.mem_append.mpr (.inr (.tail _ (.tail _ (List.mem_append.mpr (.inr (by rw [h]; exact .head _)))))))))
      · exact .tail _ (.tail _ (.tail _ (List.mem_append.mpr (.inl h))))
      · exact .tail _ (.tail _ (.tail _ (List.mem_append.mpr (.inr (.tail _ (.tail _ (List.mem_append.mpr (.inl h))))))))
end

theorem fresh_m40 : True ∧ True := by
  w_top off
  first | (walk1; done) | exact ⟨trivial, trivial⟩
def lst3 : Stmt := lawOf.1.getD 3 (.Pass default)
theorem law_four : lawOf.1 = [lst0, lst1, loopSt, lst3] := rfl
section
variable {prog : Program} {w : World} {p : Program} {loose : List Str} {mean : ExcName → Option Value} {mg mb : Str → Option Value}
  {dp un : Nat} {gd : Option (List Code)} {fa : Addr} {ccd : Value} {outer : List Env} {A₀ : Around} {base h₀ : Heap} {L : Addr} {m : Str → Option Value} {s : Shared} {Q : Flow → Shared → Prop} {E : Value → Shared → Prop} {rest : List Stmt}
theorem ret_law (F : Fr h₀ L s.heap m) (K : Q (.ret (.bool true)) s) : wpAny (model prog w) (lawA dp un gd lawScope L fa ccd outer) (execs [lst3] (lawE lawScope L fa ccd)) Q E s := by
  conv in lst3 => whnf
  replace K := Hold.mk K
  k_steps
  exact K.out
theorem law_body {q1 q2 q3 q4 q5 q6 : Obj} {u1 u2 u3 u4 u5 u6 : Option Value} {sc : Addr} {vs : List Value} {ns : List Int}
   (B : Below A₀ base outer h₀) (F : Fr h₀ L s.heap m) (X : (hd.heap_39 w.params).In h₀) (T : Top p loose mean mg mb h₀) (hdp : dp + 50 < recursionLimit) (hun : un + 20 * 50 + 100 < cLine)
   (N : News h₀ L s.heap [(L + 1, q1), (L + 2, q2), (L + 3, q3), (L + 4, q4), (L + 5, q5), (L + 6, q6)])
   (d1 : q1.data = .cell u1) (d2 : q2.data = .cell u2) (d3 : q3.data = .cell u3) (d4 : q4.data = .cell u4) (d5 : q5.data = .cell u5) (d6 : q6.data = .cell u6)
   (hsc : h₀.IsList sc vs.toArray) (hi : IntsAre vs ns) (hz : ns.length ≤ 63) (msc : m (Str.ofString "script") = some (.ref sc))
   (hE : PySem.PassesOwn (model prog w) (lawA dp un gd lawScope L fa ccd outer) (lawE lawScope L fa ccd) E)
   (K : ∀ (h' : Heap) (tk' : Nat) (m' : Str → Option Value), Fr h₀ L h' m' → Q (.ret (.bool true)) { s with heap := h', toks := tk' }) :
   wpAny (model prog w) (lawA dp un gd lawScope L fa ccd outer) (execs lawOf.1 (lawE lawScope L fa ccd)) Q E s := by
  rw [law_four]
  refine first_law B F X T hdp hun N d1 d2 d3 d4 d5 d6 hsc hi hz msc ?_
  intro rst news0 S0 S1 tw lc b0 b1 nt kc cs ns' h1 tk1 m1 F1 N1 hp hT htw mtw i0 i1 hlc hi' hz' mlc
  refine wpAny_execs_cons ?_
  refine loop_law B F1 X T (by omega) (by omega) N1 d1 d2 d3 d4 d5 d6 hp hT htw mtw i0 i1 hlc hi' hz' mlc hE ?_
  intro h2 tk2 m2 F2
  exact ret_law F2 (K h2 tk2 m2 F2)
end

theorem fresh_m41 : True ∧ True := by
  w_top off
  first | (walk1; done) | exact ⟨trivial, trivial⟩
theorem whole : PySem.Challenge.rw_nz0285_01.Holds := by
  refine hd ?_
  k_go0
  all_goals try k_fold
  rename_i o6 o5 o4 o3 o2 o1 e6 e5 e4 e3 e2 e1 hN hX
  rename Below _ _ _ _ => hB
  rename Fr _ _ _ _ => hF
  rename Top _ _ _ _ _ _ => hT
  rename IntsAre _ _ => hI
  rename Heap.IsList _ _ _ => hS
  rename ¬ _ < _ => hc
  rename Frag.In _ _ => hK
  refine' law_body hB hF hK hT ?a1 ?a2 (cb_drop hN ?a3) e1 e2 e3 e4 e5 e6 hS hI ?a4 ?a5 ?a6 ?a7
  case a1 => ktr_room
  case a2 => ktr_units
  case a3 =>
    intro q hq
    simp only [List.mem_cons, List.not_mem_nil, or_false] at hq
    rcases hq with rfl | rfl | rfl | rfl | rfl | rfl
    · exact .tail _ (.tail _ (.tail _ (.tail _ (.tail _ (.head _)))))
    · exact .tail _ (.tail _ (.tail _ (.tail _ (.head _))))
    · exact .tail _ (.tail _ (.tail _ (.head _)))
    · exact .tail _ (.tail _ (.head _))
    · exact .tail _ (.head _)
    · exact .head _
  case a4 => omega
  case a5 => with_unfolding_all rfl
  case a6 => passes_own
  case a7 =>
    intro h' tk' m' F'
    k_unfold
    try dsimp only
    refine goodW_bool F' (by assumption) (raisesW_false ?_) ?_
    · wrow_none_raised
    · wrow_post

end Mine
theorem PySem.Challenge.cw_nz0285_01_holds : PySem.Challenge.rw_nz0285_01.Holds := by
  exact Mine.whole
