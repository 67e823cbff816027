import PyProof.Rows.All
import Wide.All
import OpenK.AllK
import Wide.FinOn
import Lean
import PySem.Challenge.RW_ov0077_01
section
open Lean Elab Tactic Meta PySem PySem.W PySem.Calls PyProof.Rows PyProof.V PySem.Spec
set_option Elab.async false
set_option maxRecDepth 100000
set_option maxHeartbeats 8000000
namespace Mine
section
local macro_rules | `(tactic| o_head $_) => `(tactic| assumption)
theorem frag (h : PySem.Challenge.rw_ov0077_01.row.Holds) : PySem.Challenge.rw_ov0077_01.row.Holds := by
  k_head
end
local macro_rules | `(tactic| k_room) => `(tactic| ktr_room)
local macro_rules | `(tactic| k_enter) => `(tactic| first | (refine' code_def ?k1 ?k2 ?k3 ?k4 ?k5 ?kA ?kF ?kK ?k6 ?k7 ?k8 ?k9 ?kB ?_ ?c2 ?c3 ?c4 ?c5; (case kA => exact rfl); (case kF => exact rfl); (case kK => assumption); (case k1 => k_asm); (case k2 => k_asm); (case k3 => k_asm); (case k4 => k_asm); (case k5 => k_asm); (case k6 => k_is); (case k7 => k_is); (case k8 => k_room); (case k9 => first | exact BindsTo.of_eq rfl | exact binds_K (by k_in) rfl (by k_is) rfl rfl rfl); (case c5 => decide); (case kB => exact locs rfl); (case c2 => exact rfl); (case c3 => exact rfl); (case c4 => exact rfl); k_whole; intro g' L' h' FG' F' N' B' X' T'; (try dsimp only); (try k_lift B'); (try k_fold)) | (refine' code_defC ?k1 ?k2 ?k3 ?k4 ?k5 ?kA ?kF ?kK ?k6 ?k7 ?k8 ?k9 ?kB ?kD ?_ ?c2 ?c3 ?c4; (case kA => exact rfl); (case kF => exact rfl); (case kK => assumption); (case k1 => k_asm); (case k2 => k_asm); (case k3 => k_asm); (case k4 => k_asm); (case k5 => k_asm); (case k6 => k_is); (case k7 => k_is); (case k8 => k_room); (case k9 => first | exact BindsTo.of_eq rfl | exact binds_K (by k_in) rfl (by k_is) rfl rfl rfl); (case kB => exact rfl); (case kD => decide +kernel); (case c2 => exact rfl); (case c3 => exact rfl); (case c4 => exact rfl); k_whole; intro g' L' h' tk' cells' FG' F' N' Y' B' X' T' l1; (try k_lt l1); k_cells Y'; (try simp only [List.cons_append, List.nil_append] at N'); (try dsimp only); (try k_lift B'); (try k_fold)))
local macro_rules | `(tactic| walk_at "call builtin:len") => `(tactic| (k_here; (with_reducible show wpAny _ _ (call (Value.builtin "len") [Value.ref _]) _ _ _); k_dflt (refine' kst_len ?k1 ?k2 rfl ?k4 ?_; (case k1 => k_asm); (case k2 => k_mem); (case k4 => omega); k_whole)))

local macro_rules | `(tactic| walk_at "fin") => `(tactic| (intros; (try dsimp only); (try k_fold)))
local macro_rules | `(tactic| cb_eq) => `(tactic| first | assumption | exact News.tail' (by assumption) | exact News.tail' (News.tail' (by assumption)) | exact News.tail' (News.tail' (News.tail' (by assumption))) | exact News.tail' (News.tail' (News.tail' (News.tail' (by assumption)))))
section
/-- items of a vector of whole numbers: an int or NA -/
inductive ItemsAre : List Value → List (Option Int) → Prop
  | nil : ItemsAre [] []
  | int (i : Int) (t : Tok) {vs : List Value} {os : List (Option Int)} : ItemsAre vs os → ItemsAre (.int i t :: vs) (some i :: os)
  | none {vs : List Value} {os : List (Option Int)} : ItemsAre vs os → ItemsAre (.none :: vs) (none :: os)
theorem ItemsAre.length {vs : List Value} {os : List (Option Int)} (h : ItemsAre vs os) : vs.length = os.length := by
  induction h with
  | nil => rfl
  | int i t _ ih => simp [ih]
  | none _ ih => simp [ih]
theorem ItemsAre.append {vs ws : List Value} {os ps : List (Option Int)} (h : ItemsAre vs os) (k : ItemsAre ws ps) : ItemsAre (vs ++ ws) (os ++ ps) := by
  induction h with
  | nil => exact k
  | int i t _ ih => exact .int i t ih
  | none _ ih => exact .none ih
theorem ItemsAre.at {vs : List Value} {os : List (Option Int)} (h : ItemsAre vs os) : ∀ {i : Nat} {v : Value}, vs[i]? = some v → (∃ k t, os[i]? = some (some k) ∧ v = .int k t) ∨ (os[i]? = some Option.none ∧ v = .none) := by
  induction h with
  | nil => intro i v e; simp at e
  | int k t _ ih =>
    intro i v e
    cases i with
    | zero => simp at e; exact .inl ⟨k, t, rfl, e.symm⟩
    | succ i => simpa using ih (by simpa using e)
  | none _ ih =>
    intro i v e
    cases i with
    | zero => simp at e; exact .inr ⟨rfl, e.symm⟩
    | succ i => simpa using ih (by simpa using e)
theorem ItemsAre.ofInts {vs : List Value} {ns : List Int} (h : IntsAre vs ns) : ItemsAre vs (ns.map some) := by
  induction h with
  | nil => exact .nil
  | cons k t _ ih => exact .int k t ih
theorem ItemsAre.ints {vs : List Value} {os : List (Option Int)} (h : ItemsAre vs os) (hn : Option.none ∉ os) : ∃ ns, IntsAre vs ns ∧ os = ns.map some := by
  induction h with
  | nil => exact ⟨[], .nil, rfl⟩
  | int i t _ ih =>
    obtain ⟨ns, h1, h2⟩ := ih (fun h => hn (.tail _ h))
    exact ⟨i :: ns, .cons i t h1, by rw [h2]; rfl⟩
  | none _ _ => exact absurd (.head _) hn
section
variable {prog : Program} {w : World} {A : Around} {E : Value → Shared → Prop} {s : Shared} {env : Env} {h₀ : Heap} {x : Str} {body : List Stmt} {Q : Flow → Shared → Prop}
/-- a loop over a range by an invariant over the number of turns, the frame's map and the ledger -/
theorem range_iter {r : Addr} {a₀ b₀ : Int} {t₀ u₀ v₀ : Tok} {n : Nat} {m₀ : Str → Option Value} {news : List (Addr × Obj)} (J : Nat → (Str → Option Value) → List (Addr × Obj) → Prop)
    (hh : A.handled = none) (hr : IsRange s.heap r a₀ b₀ 1 t₀ u₀ v₀) (hsmall : Builtin.Range.small a₀ b₀ 1 = true) (hsz : Builtin.Range.rangeSize a₀ b₀ 1 = (n : Int)) (F : Fr h₀ env.locals s.heap m₀) (N : News h₀ env.locals s.heap news) (hj : J 0 m₀ news)
    (turn : ∀ (i : Nat) t m₁ nx h tk own, i < n → OwnOff own (nx.map (·.1)) → J i m₁ nx → Fr h₀ env.locals h (fun y => if y = x then some (.int (a₀ + (i : Int)) t) else m₁ y) → News h₀ env.locals h (nx ++ own) →
      wpAny (model prog w) A (execs body env) (InvPostG h₀ env.locals (J (i + 1)) own { s with heap := h, toks := tk } Q) E { s with heap := h, toks := tk })
    (done : ∀ m₁ nx h tk, J n m₁ nx → Fr h₀ env.locals h m₁ → News h₀ env.locals h nx → Q .next { s with heap := h, toks := tk }) :
    wpAny (model prog w) A (pyIter (.ref r)) (fun it s₂ => LoopAtV prog w A h₀ env x body Q E it s₂) E s := by
  refine wpAny_pyIter_range hr hsmall ?_
  have W : Walks prog w A s.heap.objs.size [s.heap.objs.size] [s.heap.objs.size] n (fun i v => i < n ∧ ∃ t, v = .int (a₀ + i * 1) t)
      (fun i h => IsRangeIter h s.heap.objs.size (a₀ + (i : Nat) * 1) ((n : Int) - (i : Nat)) 1) := (Walks.range hh _ a₀ 1 n).bound
  refine kdr_loop J W (fun _ h => h) (fun _ h => h) ?_ ?_ ?_ ?_ (by show IsRangeIter _ _ _ _ _; rw [hsz]; simpa using Heap.get?_push_size _ rfl) (F.push _) (fun p hp => ⟨Heap.get?_push_of_some _ (N p hp).1, (N p hp).2⟩) hj ?_ done
  · intro i h hi b hb
    rw [List.mem_singleton.mp hb]
    exact ⟨_, hi⟩
  · intro hm
    exact absurd F.ns.lt ((List.mem_singleton.mp hm) ▸ Nat.lt_irrefl _)
  · intro b hb
    rw [List.mem_singleton.mp hb]
    exact next_is_new F
  · intro p hp hI
    exact absurd (Heap.lt_size (N p hp).1) ((List.mem_singleton.mp hI) ▸ Nat.lt_irrefl _)
  · rintro i v m₁ nx h tk own hi ⟨_, t, rfl⟩ hoff hJ F₁ N₁
    have e1 : a₀ + (i : Int) * 1 = a₀ + (i : Int) := by omega
    rw [e1] at F₁
    exact turn i t m₁ nx h tk own hi hoff hJ F₁ N₁
end
abbrev tupObj (vs : Array Value) (n : Nat) : Obj := { cls := .type "tuple", data := .seq vs n }
section
variable {prog : Program} {w : World} {A : Around} {E : Value → Shared → Prop} {s : Shared} {env : Env} {h₀ : Heap} {x : Str} {body : List Stmt} {Q : Flow → Shared → Prop}
set_option maxHeartbeats 3200000 in
/-- a loop over a tuple of the ledger by an invariant over the number of turns, the frame's map and the ledger -/
theorem tup_iter {l : Addr} {vs : Array Value} {nn : Nat} {m₀ : Str → Option Value} {news : List (Addr × Obj)} (J : Nat → (Str → Option Value) → List (Addr × Obj) → Prop)
    (hh : A.handled = none) (hl : (l, tupObj vs nn) ∈ news) (F : Fr h₀ env.locals s.heap m₀) (N : News h₀ env.locals s.heap news) (hj : J 0 m₀ news)
    (turn : ∀ i v m₁ nx h tk own, vs[i]? = some v → OwnOff own (nx.map (·.1)) → (l, tupObj vs nn) ∈ nx → J i m₁ nx → Fr h₀ env.locals h (fun y => if y = x then some v else m₁ y) → News h₀ env.locals h (nx ++ own) →
      wpAny (model prog w) A (execs body env) (InvPostG h₀ env.locals (fun m' nx => (l, tupObj vs nn) ∈ nx ∧ J (i + 1) m' nx) own { s with heap := h, toks := tk } Q) E { s with heap := h, toks := tk })
    (done : ∀ m₁ nx h tk, J vs.size m₁ nx → Fr h₀ env.locals h m₁ → News h₀ env.locals h nx → Q .next { s with heap := h, toks := tk }) :
    wpAny (model prog w) A (pyIter (.ref l)) (fun it s₂ => LoopAtV prog w A h₀ env x body Q E it s₂) E s := by
  have hol : s.heap.get? l = some (tupObj vs nn) := (N _ hl).1
  have hls : s.heap.IsTuple l vs := ⟨_, hol, rfl, nn, rfl⟩
  have hne : l ≠ s.heap.objs.size := Nat.ne_of_lt (Heap.lt_size hol)
  refine wpAny_pyIter_tuple hls ?_
  have W := Walks.tuple (prog := prog) (w := w) hh s.heap.objs.size l hne vs
  refine ⟨_, _, _, vs.size, _, _, m₀, news, (fun i m nx => (l, tupObj vs nn) ∈ nx ∧ J i m nx), rfl, W, ?_, ?_, ?_, ⟨⟨_, Heap.get?_push_size _ rfl, rfl, rfl⟩, hls.push _⟩, F.push _, (fun p hp => ⟨Heap.get?_push_of_some _ (N p hp).1, (N p hp).2⟩), ⟨hl, hj⟩, ?_, ?_⟩
  · intro hm
    rcases List.mem_cons.mp hm with e | hm
    · exact absurd F.ns.lt (e ▸ Nat.lt_irrefl _)
    · exact (N _ hl).2.1 ((List.mem_singleton.mp hm).symm)
  · intro b hb
    rw [List.mem_singleton.mp hb]
    exact next_is_new F
  · intro p hp hI
    exact absurd (Heap.lt_size (N p hp).1) ((List.mem_singleton.mp hI) ▸ Nat.lt_irrefl _)
  · rintro i v m₁ news₁ s₁ own ⟨hh', tk', rfl⟩ hin hP ⟨hl₁, hJ⟩ hoff hown hget hfp hst F₁ N₁
    have hI0 : h₀.get? s.heap.objs.size = none := next_is_new F
    obtain ⟨⟨oI, hoI, _⟩, _⟩ := id hst
    have hIown : (s.heap.objs.size, oI) ∈ own.filter fun p => decide (p.1 = s.heap.objs.size) := List.mem_filter.mpr ⟨hfp _ (List.mem_cons.mpr (.inl rfl)) hI0 _ hoI, by simp⟩
    have hsep : OwnOff (own.filter fun p => decide (p.1 = s.heap.objs.size)) (news₁.map (·.1)) := by
      intro p hp b hb e
      obtain ⟨q, hq, rfl⟩ := List.mem_map.mp hb
      have h1 : p.1 = s.heap.objs.size := by simpa using (List.mem_filter.mp hp).2
      exact hoff q hq (List.mem_singleton.mpr (e ▸ h1))
    have N₂ : News h₀ env.locals hh' (news₁ ++ own.filter fun p => decide (p.1 = s.heap.objs.size)) := fun p hp => N₁ p ((List.mem_append.mp hp).elim (fun h => List.mem_append.mpr (.inr h)) fun h => List.mem_append.mpr (.inl ((List.mem_filter.mp h).1)))
    have hlo : hh'.get? l = some (tupObj vs nn) := (N₁ _ (List.mem_append.mpr (.inr hl₁))).1
    refine wpAny_mono (turn i v m₁ news₁ hh' tk' _ hP hsep hl₁ hJ F₁ N₂) (fun f s₂ p => ?_) fun _ _ e => e
    have fin : InvEndG h₀ env.locals (fun m' nx => (l, tupObj vs nn) ∈ nx ∧ J (i + 1) m' nx) (own.filter fun p => decide (p.1 = s.heap.objs.size)) { s with heap := hh', toks := tk' } s₂ →
        LoopStepU h₀ env.locals [s.heap.objs.size] own (fun m nx => (l, tupObj vs nn) ∈ nx ∧ J (i + 1) m nx) { s with heap := hh', toks := tk' } .next s₂ := by
      rintro ⟨h', tk, m', news', nx, e, F', N', hn, ho, ha, hm⟩
      refine ⟨rfl, h', tk, m', nx, e, F', fun p hp => ?_, fun p hp hq => ?_, hm⟩
      · rcases List.mem_append.mp hp with h | h
        · by_cases hI : p.1 = s.heap.objs.size
          · exact N' p (ho p (List.mem_filter.mpr ⟨h, by simpa using hI⟩))
          · have h1 : p.1 = l := by
              rcases List.mem_cons.mp (hown p h) with h2 | h2
              · exact absurd h2 hI
              · exact List.mem_singleton.mp h2
            have h2 : hh'.get? p.1 = some p.2 := hget p h
            rw [h1, hlo] at h2
            have h3 : p = (l, tupObj vs nn) := Prod.ext h1 (Option.some.inj h2).symm
            rw [h3]
            exact N' _ (hn _ hm.1)
        · exact N' p (hn p h)
      · exact ha _ hIown p.1 (List.mem_map.mpr ⟨p, hp, rfl⟩) (List.mem_singleton.mp hq).symm
    cases f with
    | ret v => exact .ret p
    | brk => exact .brk p
    | next => exact .next (fin p)
    | cont => exact .cont (fin p)
  · rintro h' tk m' news' F' N' _ ⟨_, hJ⟩
    exact done m' news' h' tk hJ F' N'
end
theorem fr_put {h₀ h : Heap} {L : Addr} {f : Str → Option Value} {n : Str} {v : Value} (F : Fr h₀ L h f) (e : f n = some v) : Fr h₀ L h (fun y => if y = n then some v else f y) := by
  have : (fun y => if y = n then some v else f y) = f := by
    funext y
    by_cases h : y = n
    · rw [if_pos h, h, e]
    · rw [if_neg h]
  rw [this]; exact F
theorem fr_eq {h₀ h : Heap} {L : Addr} {f g : Str → Option Value} (F : Fr h₀ L h f) (e : g = f) : Fr h₀ L h g := by rw [e]; exact F
/-- the names that a loop does not store stand as they stood -/
def Stay (x : Str) (stored : List Str) (m₀ m : Str → Option Value) : Prop := ∀ z, z ≠ x → stored.contains z = false → m z = m₀ z
theorem Stay.fun {x : Str} {stored : List Str} {m₀ m : Str → Option Value} {v : Option Value} (h : Stay x stored m₀ m) : (fun y => if y = x then v else if stored.contains y = true then m y else m₀ y) = fun y => if y = x then v else m y := by
  funext y
  by_cases h1 : y = x
  · simp [h1]
  · simp only [if_neg h1]
    cases h2 : stored.contains y with
    | true => simp
    | false => simp only [Bool.false_eq_true, if_false]; exact (h y h1 h2).symm
theorem Stay.fun0 {x : Str} {stored : List Str} {m₀ m : Str → Option Value} (h : Stay x stored m₀ m) : (fun y => if y = x then m y else if stored.contains y = true then m y else m₀ y) = m := by
  funext y
  by_cases h1 : y = x
  · simp [h1]
  · simp only [if_neg h1]
    cases h2 : stored.contains y with
    | true => simp
    | false => simp only [Bool.false_eq_true, if_false]; exact (h y h1 h2).symm
section
variable {prog : Program} {w : World} {A : Around} {E : Value → Shared → Prop} {s : Shared} {env : Env} {h₀ : Heap} {x : Str} {body : List Stmt} {Q : Flow → Shared → Prop}
theorem range_loop {r : Addr} {a₀ b₀ : Int} {t₀ u₀ v₀ : Tok} {n : Nat} {m₀ : Str → Option Value} {news : List (Addr × Obj)} (stored : List Str) (J : Nat → (Str → Option Value) → List (Addr × Obj) → Prop)
    (hh : A.handled = none) (hr : IsRange s.heap r a₀ b₀ 1 t₀ u₀ v₀) (hsmall : Builtin.Range.small a₀ b₀ 1 = true) (hsz : Builtin.Range.rangeSize a₀ b₀ 1 = (n : Int)) (F : Fr h₀ env.locals s.heap m₀) (N : News h₀ env.locals s.heap news) (hj : J 0 m₀ news)
    (turn : ∀ (i : Nat) t u nx h tk own, i < n → OwnOff own (nx.map (·.1)) → J i u nx → Fr h₀ env.locals h (fun y => if y = x then some (.int (a₀ + (i : Int)) t) else if stored.contains y = true then u y else m₀ y) → News h₀ env.locals h (nx ++ own) →
      wpAny (model prog w) A (execs body env) (InvPostG h₀ env.locals (fun m' nx' => Stay x stored m₀ m' ∧ J (i + 1) m' nx') own { s with heap := h, toks := tk } Q) E { s with heap := h, toks := tk })
    (done : ∀ u nx h tk, J n u nx → Fr h₀ env.locals h (fun y => if y = x then u y else if stored.contains y = true then u y else m₀ y) → News h₀ env.locals h nx → Q .next { s with heap := h, toks := tk }) :
    wpAny (model prog w) A (pyIter (.ref r)) (fun it s₂ => LoopAtV prog w A h₀ env x body Q E it s₂) E s :=
  range_iter (fun i m nx => Stay x stored m₀ m ∧ J i m nx) hh hr hsmall hsz F N ⟨fun _ _ _ => rfl, hj⟩
    (fun i t m₁ nx h tk own hi ho hJ F₁ N₁ => turn i t m₁ nx h tk own hi ho hJ.2 (fr_eq F₁ hJ.1.fun) N₁)
    fun m₁ nx h tk hJ F₁ N₁ => done m₁ nx h tk hJ.2 (fr_eq F₁ hJ.1.fun0) N₁
theorem list_loop {l : Addr} {vs : List Value} {nn : Nat} {m₀ : Str → Option Value} {news : List (Addr × Obj)} (stored : List Str) (J : Nat → (Str → Option Value) → List (Addr × Obj) → Prop)
    (hh : A.handled = none) (hl : (l, listOf vs.toArray nn) ∈ news) (F : Fr h₀ env.locals s.heap m₀) (N : News h₀ env.locals s.heap news) (hj : J 0 m₀ news)
    (turn : ∀ i v u nx h tk own, vs[i]? = some v → OwnOff own (nx.map (·.1)) → (l, listOf vs.toArray nn) ∈ nx → J i u nx → Fr h₀ env.locals h (fun y => if y = x then some v else if stored.contains y = true then u y else m₀ y) → News h₀ env.locals h (nx ++ own) →
      wpAny (model prog w) A (execs body env) (InvPostG h₀ env.locals (fun m' nx' => (l, listOf vs.toArray nn) ∈ nx' ∧ Stay x stored m₀ m' ∧ J (i + 1) m' nx') own { s with heap := h, toks := tk } Q) E { s with heap := h, toks := tk })
    (done : ∀ u nx h tk, J vs.length u nx → Fr h₀ env.locals h (fun y => if y = x then u y else if stored.contains y = true then u y else m₀ y) → News h₀ env.locals h nx → Q .next { s with heap := h, toks := tk }) :
    wpAny (model prog w) A (pyIter (.ref l)) (fun it s₂ => LoopAtV prog w A h₀ env x body Q E it s₂) E s :=
  kdl_iter (fun i m nx => Stay x stored m₀ m ∧ J i m nx) hh hl F N ⟨fun _ _ _ => rfl, hj⟩
    (fun i v m₁ nx h tk own hi ho hm hJ F₁ N₁ => turn i v m₁ nx h tk own hi ho hm hJ.2 (fr_eq F₁ hJ.1.fun) N₁)
    fun m₁ nx h tk hJ F₁ N₁ => done m₁ nx h tk hJ.2 (fr_eq F₁ hJ.1.fun0) N₁
theorem tup_loop {l : Addr} {vs : Array Value} {nn : Nat} {m₀ : Str → Option Value} {news : List (Addr × Obj)} (stored : List Str) (J : Nat → (Str → Option Value) → List (Addr × Obj) → Prop)
    (hh : A.handled = none) (hl : (l, tupObj vs nn) ∈ news) (F : Fr h₀ env.locals s.heap m₀) (N : News h₀ env.locals s.heap news) (hj : J 0 m₀ news)
    (turn : ∀ i v u nx h tk own, vs[i]? = some v → OwnOff own (nx.map (·.1)) → (l, tupObj vs nn) ∈ nx → J i u nx → Fr h₀ env.locals h (fun y => if y = x then some v else if stored.contains y = true then u y else m₀ y) → News h₀ env.locals h (nx ++ own) →
      wpAny (model prog w) A (execs body env) (InvPostG h₀ env.locals (fun m' nx' => (l, tupObj vs nn) ∈ nx' ∧ Stay x stored m₀ m' ∧ J (i + 1) m' nx') own { s with heap := h, toks := tk } Q) E { s with heap := h, toks := tk })
    (done : ∀ u nx h tk, J vs.size u nx → Fr h₀ env.locals h (fun y => if y = x then u y else if stored.contains y = true then u y else m₀ y) → News h₀ env.locals h nx → Q .next { s with heap := h, toks := tk }) :
    wpAny (model prog w) A (pyIter (.ref l)) (fun it s₂ => LoopAtV prog w A h₀ env x body Q E it s₂) E s :=
  tup_iter (fun i m nx => Stay x stored m₀ m ∧ J i m nx) hh hl F N ⟨fun _ _ _ => rfl, hj⟩
    (fun i v m₁ nx h tk own hi ho hm hJ F₁ N₁ => turn i v m₁ nx h tk own hi ho hm hJ.2 (fr_eq F₁ hJ.1.fun) N₁)
    fun m₁ nx h tk hJ F₁ N₁ => done m₁ nx h tk hJ.2 (fr_eq F₁ hJ.1.fun0) N₁
end
theorem stay0 {x : Str} {st : List Str} {m₀ u : Str → Option Value} {v : Option Value} : Stay x st m₀ (fun y => if y = x then v else if st.contains y = true then u y else m₀ y) := by
  intro z h1 h2
  simp only [if_neg h1, h2, Bool.false_eq_true, if_false]
theorem stay_put {x n : Str} {st : List Str} {m₀ m : Str → Option Value} {v : Option Value} (hn : n = x ∨ st.contains n = true) (h : Stay x st m₀ m) : Stay x st m₀ (fun y => if y = n then v else m y) := by
  intro z h1 h2
  have hz : z ≠ n := by
    rintro rfl
    rcases hn with e | e
    · exact h1 e
    · rw [h2] at e; cases e
  simp only [if_neg hz]
  exact h z h1 h2
section
variable {prog : Program} {w : World} {A : Around} {E : Value → Shared → Prop} {s : Shared} {h₀ : Heap} {L : Addr} {news : List (Addr × Obj)}
theorem item_gen {value slice : PySem.Expr} {l : Addr} {vs : List Value} {c : Nat} {k : Int} {u : Tok} {Q : Value → Shared → Prop} (N : News h₀ L s.heap news) (hm : (l, listOf vs.toArray c) ∈ news) (h0 : 0 ≤ k) (h1 : k < vs.length) (hb : vs.length < 2 ^ 20)
    (h : ∀ v, vs[k.toNat]? = some v → Q v s) (hs : subscripted slice false (.ref l) (.int k u) = operate [.ref l, .int k u] (getItem (.ref l) (.int k u)) := by with_unfolding_all rfl) :
    wpAny (model prog w) A (subscriptTail value slice (.ref l) (.int k u)) Q E s := by
  have hl : s.heap.IsList l vs.toArray := ⟨_, (N _ hm).1, rfl, c, rfl⟩
  have hk : k.toNat < vs.length := by omega
  exact tail_any hl.typeIs PySem.F.slot_list_getitem.lookup (wpAny_getItem_list hl h0 (by omega) (x := vs[k.toNat]) (by simp [hk]) (h _ (by simp [hk]))) hs
theorem item_neg {value slice : PySem.Expr} {l : Addr} {vs : List Value} {c : Nat} {u : Tok} {Q : Value → Shared → Prop} (N : News h₀ L s.heap news) (hm : (l, listOf vs.toArray c) ∈ news) (h1 : 0 < vs.length) (hb : vs.length < 2 ^ 20)
    (h : ∀ v, vs[vs.length - 1]? = some v → Q v s) (hs : subscripted slice false (.ref l) (.int (-1) u) = operate [.ref l, .int (-1) u] (getItem (.ref l) (.int (-1) u)) := by with_unfolding_all rfl) :
    wpAny (model prog w) A (subscriptTail value slice (.ref l) (.int (-1) u)) Q E s := by
  have hl : s.heap.IsList l vs.toArray := ⟨_, (N _ hm).1, rfl, c, rfl⟩
  have hsz : vs.toArray.size = vs.length := by simp
  have hk : ((-1 : Int) + (vs.toArray.size : Int)).toNat = vs.length - 1 := by rw [hsz]; omega
  have hlt : vs.length - 1 < vs.length := by omega
  exact tail_any hl.typeIs PySem.F.slot_list_getitem.lookup (wpAny_getItem_list_neg hl (by omega) (by rw [hsz]; omega) (by omega) (x := vs[vs.length - 1]) (by rw [hk]; simp [hlt]) (h _ (by simp [hlt]))) hs
end
/-- where the walk is to rest -/
def Rest (P : Prop) : Prop := P
section
variable {prog : Program} {w : World} {A : Around} {E : Value → Shared → Prop} {s : Shared} {h₀ : Heap} {L : Addr} {m : Str → Option Value} {env : Env}
theorem comp_rest {elt : PySem.Expr} {x : Str} {scope : Scope} {cl : List (Str × Addr)} {S : List (Addr × Obj) → Prop} {P : Nat → Value → Prop} {Fin : List Value → List (Addr × Obj) → Prop} {news : List (Addr × Obj)} {n : Nat} (R : Nat → Value → Prop)
    (turn : ∀ i v I oI C oC D m₂ ys h tk (E' : Value → Shared → Prop), i < n → P i v → LCg.NsObj oC m₂ → m₂ x = some v → Fr h₀ L h m → News h₀ L h ((I, oI) :: (C, oC) :: (D, LCg.lst ys) :: news) → LCg.Off3 I C D news → ((@Ne Nat I C) ∧ (@Ne Nat I D) ∧ (@Ne Nat C D)) →
      wpAny (model prog w) A (eval elt (compEnvC scope cl C env)) (LCg.CompEnd h₀ L m { s with heap := h, toks := tk } I oI C oC D (LCg.lst ys) S (fun y news' => Rest (news' = news ∧ R i y))) E' { s with heap := h, toks := tk })
    (fin : ∀ ys, ys.length = n → (∀ i y, ys[i]? = some y → R i y) → Fin ys news) : LCg.CompRest prog w A h₀ L m env elt x scope cl s S P Fin n 0 [] news := by
  have key : ∀ (j i : Nat) (ys : List Value), i + j = n → ys.length = i → (∀ k y, ys[k]? = some y → R k y) → LCg.CompRest prog w A h₀ L m env elt x scope cl s S P Fin j i ys news := by
    intro j
    induction j with
    | zero => intro i ys hi hl hy; exact LCg.CompRest.zero (fin ys (by omega) hy)
    | succ j ih =>
      intro i ys hi hl hy
      refine LCg.CompRest.succ ?_
      intro v I oI C oC D m₂ h tk E' hv hC hx F N off ne
      refine wpAny_mono (turn i v I oI C oC D m₂ ys h tk E' (by omega) hv hC hx F N off ne) (fun y s₂ hq => ?_) fun _ _ e => e
      obtain ⟨h', tk', nw, e, F', N', off', hS, hn, hy'⟩ := hq
      subst hn
      refine ⟨h', tk', nw, e, F', N', off', hS, ih (i + 1) _ (by omega) (by simp [hl]) ?_⟩
      intro k z hz
      rw [List.getElem?_append] at hz
      split at hz
      · exact hy k z hz
      · have hk : k = i := by
          have := (List.getElem?_eq_some_iff.mp hz).1
          simp at this
          omega
        subst hk
        simp [hl] at hz
        rw [← hz]; exact hy'
  exact key n 0 [] (by omega) rfl (by simp)
theorem listcomp_rest {elt iter : PySem.Expr} {x : Str} {px : Pos} {scope : Scope} {cl : List (Str × Addr)} {pos : Pos} {Q : Value → Shared → Prop} (F₀ : Fr h₀ L s.heap m)
    (hclos : closureFor scope env = pure cl) (hcell : ∀ y ∈ scope.names, y.2 ≠ .cell) (hkind : scope.kind = .function)
    (hnames : ∀ y ∈ scope.names, y.2 = .local → scope.names.lookup y.1 = some .local) (hx : scope.names.lookup x = some .local)
    (h : wpAny (model prog w) A (eval iter env) (fun xv s₁ => Rest (LCg.CompSrc prog w A h₀ L m env elt x scope cl (fun s₂ => LCg.FinE h₀ L m s₂ Q) xv s₁)) E s)
    (hs : ∀ x, foldedSetIterable iter env x = pure x := by intro _; rfl) :
    wpAny (model prog w) A (eval (.ListComp elt [⟨.Name x px, iter, [], 0⟩] scope pos) env) Q E s := LCg.ListComp_U F₀ hclos hcell hkind hnames hx h hs
theorem assigncomp_rest {elt iter : PySem.Expr} {x y : Str} {px py : Pos} {scope : Scope} {cl : List (Str × Addr)} {pos spos : Pos} {Q : Flow → Shared → Prop} (F₀ : Fr h₀ L s.heap m) (hLe : env.locals = L)
    (hsw : swapsWith (.ListComp elt [⟨.Name x px, iter, [], 0⟩] scope pos) (some (.Name y py)) spos.line env = pure true)
    (hclos : closureFor scope env = pure cl) (hcell : ∀ z ∈ scope.names, z.2 ≠ .cell) (hkind : scope.kind = .function)
    (hnames : ∀ z ∈ scope.names, z.2 = .local → scope.names.lookup z.1 = some .local) (hx : scope.names.lookup x = some .local)
    (hy : env.kindOf y = some .local) (hp : (env.scope.kind == .class || (env.scope.kind == .module && env.locals != env.globals)) = false)
    (h : wpAny (model prog w) A (eval iter env) (fun xv s₁ => Rest (LCg.CompSrc prog w A h₀ L m env elt x scope cl (fun s₂ => LCg.FinA h₀ L m s₂ y Q) xv s₁)) E s)
    (hs : ∀ x, foldedSetIterable iter env x = pure x := by intro _; rfl) :
    wpAny (model prog w) A (exec (.Assign [.Name y py] (.ListComp elt [⟨.Name x px, iter, [], 0⟩] scope pos) spos) env) Q E s := LCg.Assign_ListComp_U F₀ hLe hsw hclos hcell hkind hnames hx hy hp h hs
end
theorem off1_all {D : Addr} : ∀ {l : List (Addr × Obj)}, LCg.Off1 D l → ∀ p ∈ l, p.1 ≠ D
  | [], _, _, h => nomatch h
  | _ :: _, x, p, h => by
    rcases List.mem_cons.mp h with rfl | h
    · exact x.1
    · exact off1_all x.2 p h
theorem rest_intro {P : Prop} (h : Rest P) : P := h
theorem name_lt {news : List (Addr × Obj)} {d : Addr} {P : Prop} (_ : ∀ p ∈ news, p.1 < d) (k : ∀ d' : Addr, d' = d → P) : P := k d rfl
theorem mem_raw {α : Type} {a : α} {l : List α} (h : a ∈ l) : List.Mem a l := h
section
variable {h₀ h' : Heap} {L : Addr} {J : (Str → Option Value) → List (Addr × Obj) → Prop} {m' : Str → Option Value} {own news : List (Addr × Obj)} {s₁ : Shared} {tk : Nat} {q q2 q3 q4 : Addr × Obj}
theorem end1 (N : News h₀ L h' (q :: (news ++ own))) (F : Fr h₀ L h' m') (hj : J m' (q :: news)) (ho : OwnOff own ((q :: news).map (·.1))) : InvEndG h₀ L J own s₁ { s₁ with heap := h', toks := tk } :=
  InvEndG.intro F N hj ho (fun p hp => by
    rcases List.mem_cons.mp hp with rfl | hp
    · exact .head _
    · exact List.mem_cons_of_mem _ (List.mem_append.mpr (.inl hp))) fun p hp => List.mem_cons_of_mem _ (List.mem_append.mpr (.inr hp))
theorem end2 (N : News h₀ L h' (q :: q2 :: (news ++ own))) (F : Fr h₀ L h' m') (hj : J m' (q :: q2 :: news)) (ho : OwnOff own ((q :: q2 :: news).map (·.1))) : InvEndG h₀ L J own s₁ { s₁ with heap := h', toks := tk } :=
  InvEndG.intro F N hj ho (fun p hp => by
    rcases List.mem_cons.mp hp with rfl | hp
    · exact .head _
    rcases List.mem_cons.mp hp with rfl | hp
    · exact .tail _ (.head _)
    · exact List.mem_cons_of_mem _ (List.mem_cons_of_mem _ (List.mem_append.mpr (.inl hp)))) fun p hp => List.mem_cons_of_mem _ (List.mem_cons_of_mem _ (List.mem_append.mpr (.inr hp)))
theorem News.no4 {h : Heap} (N : News h₀ L h (q :: q2 :: q3 :: q4 :: news)) : News h₀ L h (q :: q2 :: q3 :: news) := fun p hp => N p (by
    rcases List.mem_cons.mp hp with rfl | hp
    · exact .head _
    rcases List.mem_cons.mp hp with rfl | hp
    · exact .tail _ (.head _)
    rcases List.mem_cons.mp hp with rfl | hp
    · exact .tail _ (.tail _ (.head _))
    · exact .tail _ (.tail _ (.tail _ (.tail _ hp))))
end
theorem Rest.mk {P : Prop} (h : P) : Rest P := h
theorem ints_of_get : ∀ {ys : List Value} {ns : List Int}, ys.length = ns.length → (∀ (i : Nat) v, ys[i]? = some v → ∃ k t, ns[i]? = some k ∧ v = .int k t) → IntsAre ys ns
  | [], [], _, _ => .nil
  | [], _ :: _, h, _ => by simp at h
  | _ :: _, [], h, _ => by simp at h
  | y :: ys, n :: ns, h, k => by
    obtain ⟨a, t, h1, h2⟩ := k 0 y rfl
    simp at h1
    subst h1; subst h2
    exact .cons _ t (ints_of_get (by simpa using h) fun i v e => by simpa using k (i + 1) v (by simpa using e))
/-- the differences a lag apart -/
def dif (lag : Nat) (ns : List Int) : List Int := List.zipWith (fun a b => a - b) (ns.drop lag) (ns.take (ns.length - lag))
noncomputable def difs (lag : Nat) : Nat → List Int → List Int
  | 0, ns => ns
  | k + 1, ns => dif lag (difs lag k ns)
theorem dif_length (lag : Nat) (ns : List Int) : (dif lag ns).length = ns.length - lag := by
  unfold dif; rw [List.length_zipWith, List.length_drop, List.length_take]; omega
theorem difs_length (lag : Nat) (ns : List Int) : ∀ k, (difs lag k ns).length = ns.length - lag * k
  | 0 => by simp [difs]
  | k + 1 => by rw [difs, dif_length, difs_length lag ns k, Nat.mul_add, Nat.mul_one]; omega
def Small (b : Int) (ns : List Int) : Prop := ∀ x ∈ ns, -b ≤ x ∧ x ≤ b
theorem dif_small {b : Int} {lag : Nat} {ns : List Int} (h : Small b ns) : Small (2 * b) (dif lag ns) := by
  intro x hx
  unfold dif at hx
  obtain ⟨i, hi⟩ := List.mem_iff_getElem?.mp hx
  rw [List.getElem?_zipWith] at hi
  split at hi
  · rename_i a c e1 e2
    have h1 := h a (List.mem_of_mem_drop (List.mem_of_getElem? e1))
    have h2 := h c (List.mem_of_mem_take (List.mem_of_getElem? e2))
    cases hi
    omega
  · cases hi
theorem difs_small {b : Int} {lag : Nat} {ns : List Int} (h : Small b ns) : ∀ k, Small (2 ^ k * b) (difs lag k ns)
  | 0 => by simpa [difs] using h
  | k + 1 => by
    have := dif_small (lag := lag) (difs_small (lag := lag) h k)
    rw [← Int.mul_assoc] at this
    rw [difs, Int.pow_succ, Int.mul_comm (2 ^ k) 2]
    exact this
theorem pick_drop {vs ys : List Value} {D : List Int} {lag : Nat} (hi : IntsAre vs D) (hl : ys.length = (rangeKs (lag : Int) ((D.length : Int) - lag).toNat).length)
    (hy : ∀ (i : Nat) (v : Value), ys[i]? = some v → ∃ k, (rangeKs (lag : Int) ((D.length : Int) - lag).toNat)[i]? = some k ∧ vs[k.toNat]? = some v) : IntsAre ys (D.drop lag) := by
  rw [rangeKs_length] at hl
  refine ints_of_get (by rw [hl, List.length_drop]; omega) fun i v e => ?_
  obtain ⟨k, h1, h2⟩ := hy i v e
  have hlt : i < ((D.length : Int) - lag).toNat := by rw [← hl]; exact (List.getElem?_eq_some_iff.mp e).1
  have hk : k = (lag : Int) + i := by
    have : (rangeKs (lag : Int) ((D.length : Int) - lag).toNat)[i]? = some ((lag : Int) + i) := by
      have h3 : i < D.length - lag := by omega
      simp [rangeKs, h3]
    rw [h1] at this
    exact Option.some.inj this
  subst hk
  obtain ⟨z, t, ez, hz⟩ := IntsAre.at hi _ _ h2
  refine ⟨z, t, ?_, ez⟩
  rw [List.getElem?_drop, ← hz]
  congr 1
theorem small_sub {b : Int} {xs ys : List Int} (h1 : Small b xs) (h2 : Small b ys) (hb : 2 * b < 1000) : ∀ (i : Nat) x y, xs[i]? = some x → ys[i]? = some y → -1000 < x - y ∧ x - y < 1000 := by
  intro i x y e1 e2
  have := h1 x (List.mem_of_getElem? e1)
  have := h2 y (List.mem_of_getElem? e2)
  omega
theorem difs_small400 {lag i df : Nat} {ns : List Int} (h : Small 50 ns) (hi : i < df) (hd : df ≤ 3) : Small 400 (difs lag i ns) := by
  have := difs_small (lag := lag) h i
  intro x hx
  have hx := this x hx
  have h3 : i < 3 := by omega
  rcases i with _ | _ | _ | i
  · omega
  · omega
  · omega
  · omega
theorem hidQ {α : Type} {M : Model} {A : Around} {t : Sem α} {Q : α → Shared → Prop} {E : Value → Shared → Prop} {s : Shared} (h : ∀ R : α → Shared → Prop, Q = R → wpAny M A t R E s) : wpAny M A t Q E s := h Q rfl
theorem hidOf {α : Type} {Q R : α → Shared → Prop} (e : Q = R) {a : α} {s : Shared} (h : Q a s) : R a s := e ▸ h
end
local macro_rules | `(tactic| k_all) => `(tactic| first | assumption | exact off1_all (by assumption))
local macro_rules | `(tactic| k_mem) => `(tactic| ((with_reducible show List.Mem _ _); first | assumption | (refine mem_raw ?_; ktn_app; k_mem)))
local macro_rules | `(tactic| tb_rel) => `(tactic| (repeat (first | exact stay0 | (refine stay_put (by decide) ?_))))
section
/-- the dict of a Vector of kind integer whose items are the list at l -/
abbrev vecD (P : Params) (t1 t2 t3 t4 t5 tm : Tok) (l : Addr) : List DictEntry := [
  { hash := PyData.keyHash P (Str.ofString "kind"), key := .str (Str.ofString "kind") t1, val := .str (Str.ofString "integer") tm },
  { hash := PyData.keyHash P (Str.ofString "items"), key := .str (Str.ofString "items") t2, val := .ref l },
  { hash := PyData.keyHash P (Str.ofString "attrs"), key := .str (Str.ofString "attrs") t3, val := .none },
  { hash := PyData.keyHash P (Str.ofString "shared"), key := .str (Str.ofString "shared") t4, val := .bool false },
  { hash := PyData.keyHash P (Str.ofString "loose"), key := .str (Str.ofString "loose") t5, val := .bool false }]
theorem vector_spec {w : World} {p : Program} {loose : List Str} {mean : ExcName → Option Value} {mg mb : Str → Option Value}
    {dp un : Nat} {gd : Option (List Code)} {cn : Str} {cs : Scope} {a : Addr} {ccd : Value} {cl : List (Str × Addr)} {outer : List Env} {A₀ : Around} {base h₀ : Heap} {L : Addr} {m : Str → Option Value} {news : List (Addr × Obj)} {s : Shared} {Q E : Value → Shared → Prop} {l : Addr} {tm : Tok}
    (B : Below A₀ base outer h₀) (F : Fr h₀ L s.heap m) (X : (frag.heap_1 w.params).In h₀) (N : News h₀ L s.heap news) (T : Top p loose mean mg mb h₀) (hk : cs.kind = .function) (hdp : dp + 3 < recursionLimit) (hun : un + 20 < cLine)
    (ret : ∀ x d t1 t2 t3 t4 t5 h' tk', (∀ q ∈ news, q.1 < d) → d < x → Fr h₀ L h' m → News h₀ L h' ((x, instObj 78 d) :: (d, dictOf (vecD w.params t1 t2 t3 t4 t5 tm l) 5) :: news) → Q (.ref x) { s with heap := h', toks := tk' }) :
    wpAny (model Challenge.pw_ov0077_01 w) (ktrTop dp un gd cn cs L a ccd cl outer) (call (.ref 78) [.str (Str.ofString "integer") tm, .ref l]) Q E s := by
  have kMk : KstMark := kstMark
  k_steps
  exact ret _ _ _ _ _ _ _ _ _ (by assumption) (by assumption) (by assumption) (by cb_eq)
theorem length_spec {w : World} {p : Program} {loose : List Str} {mean : ExcName → Option Value} {mg mb : Str → Option Value}
    {dp un : Nat} {gd : Option (List Code)} {cn : Str} {cs : Scope} {a : Addr} {ccd : Value} {cl : List (Str × Addr)} {outer : List Env} {A₀ : Around} {base h₀ : Heap} {L : Addr} {m : Str → Option Value} {news : List (Addr × Obj)} {s : Shared} {Q E : Value → Shared → Prop} {l x d : Addr} {t1 t2 t3 t4 t5 tm : Tok} {vs : List Value} {c : Nat}
    (B : Below A₀ base outer h₀) (F : Fr h₀ L s.heap m) (X : (frag.heap_1 w.params).In h₀) (N : News h₀ L s.heap news) (T : Top p loose mean mg mb h₀) (hk : cs.kind = .function) (hdp : dp + 3 < recursionLimit) (hun : un + 20 < cLine) (hx : (x, instObj 78 d) ∈ news) (hxd : (d, dictOf (vecD w.params t1 t2 t3 t4 t5 tm l) 5) ∈ news) (hl : (l, listOf vs.toArray c) ∈ news)
    (hb : vs.length < 2 ^ 20)
    (ret : ∀ t h' tk', Fr h₀ L h' m → News h₀ L h' news → Q (.int vs.length t) { s with heap := h', toks := tk' }) :
    wpAny (model Challenge.pw_ov0077_01 w) (ktrTop dp un gd cn cs L a ccd cl outer) (call (.ref 103) [.ref x]) Q E s := by
  have kMk : KstMark := kstMark
  k_steps
  exact ret _ _ _ (by assumption) (by cb_eq)
theorem dim_of_spec {w : World} {p : Program} {loose : List Str} {mean : ExcName → Option Value} {mg mb : Str → Option Value}
    {dp un : Nat} {gd : Option (List Code)} {cn : Str} {cs : Scope} {a : Addr} {ccd : Value} {cl : List (Str × Addr)} {outer : List Env} {A₀ : Around} {base h₀ : Heap} {L : Addr} {m : Str → Option Value} {news : List (Addr × Obj)} {s : Shared} {Q E : Value → Shared → Prop} {l x d : Addr} {t1 t2 t3 t4 t5 tm : Tok} {vs : List Value} {c : Nat}
    (B : Below A₀ base outer h₀) (F : Fr h₀ L s.heap m) (X : (frag.heap_1 w.params).In h₀) (N : News h₀ L s.heap news) (T : Top p loose mean mg mb h₀) (hk : cs.kind = .function) (hdp : dp + 4 < recursionLimit) (hun : un + 30 < cLine) (hx : (x, instObj 78 d) ∈ news) (hxd : (d, dictOf (vecD w.params t1 t2 t3 t4 t5 tm l) 5) ∈ news) (hl : (l, listOf vs.toArray c) ∈ news)
    (ret : ∀ h' tk', Fr h₀ L h' m → News h₀ L h' news → Q .none { s with heap := h', toks := tk' }) :
    wpAny (model Challenge.pw_ov0077_01 w) (ktrTop dp un gd cn cs L a ccd cl outer) (call (.ref 155) [.ref x]) Q E s := by
  have kMk : KstMark := kstMark
  k_steps
  exact ret _ _ (by assumption) (by cb_eq)
theorem number_items_spec {w : World} {p : Program} {loose : List Str} {mean : ExcName → Option Value} {mg mb : Str → Option Value}
    {dp un : Nat} {gd : Option (List Code)} {cn : Str} {cs : Scope} {a : Addr} {ccd : Value} {cl : List (Str × Addr)} {outer : List Env} {A₀ : Around} {base h₀ : Heap} {L : Addr} {m : Str → Option Value} {news : List (Addr × Obj)} {s : Shared} {Q E : Value → Shared → Prop} {l x d : Addr} {t1 t2 t3 t4 t5 tm : Tok} {vs : List Value} {c : Nat}
    (B : Below A₀ base outer h₀) (F : Fr h₀ L s.heap m) (X : (frag.heap_1 w.params).In h₀) (N : News h₀ L s.heap news) (T : Top p loose mean mg mb h₀) (hk : cs.kind = .function) (hdp : dp + 4 < recursionLimit) (hun : un + 30 < cLine) (hx : (x, instObj 78 d) ∈ news) (hxd : (d, dictOf (vecD w.params t1 t2 t3 t4 t5 tm l) 5) ∈ news) (hl : (l, listOf vs.toArray c) ∈ news)
    (ret : ∀ h' tk', Fr h₀ L h' m → News h₀ L h' news → Q (.ref l) { s with heap := h', toks := tk' }) :
    wpAny (model Challenge.pw_ov0077_01 w) (ktrTop dp un gd cn cs L a ccd cl outer) (call (.ref 416) [.ref x]) Q E s := by
  have kMk : KstMark := kstMark
  k_steps
  exact ret _ _ (by assumption) (by cb_eq)
theorem is_factor_spec {w : World} {p : Program} {loose : List Str} {mean : ExcName → Option Value} {mg mb : Str → Option Value}
    {dp un : Nat} {gd : Option (List Code)} {cn : Str} {cs : Scope} {a : Addr} {ccd : Value} {cl : List (Str × Addr)} {outer : List Env} {A₀ : Around} {base h₀ : Heap} {L : Addr} {m : Str → Option Value} {news : List (Addr × Obj)} {s : Shared} {Q E : Value → Shared → Prop} {l x d : Addr} {t1 t2 t3 t4 t5 tm : Tok} {vs : List Value} {c : Nat}
    (B : Below A₀ base outer h₀) (F : Fr h₀ L s.heap m) (X : (frag.heap_1 w.params).In h₀) (N : News h₀ L s.heap news) (T : Top p loose mean mg mb h₀) (hk : cs.kind = .function) (hdp : dp + 5 < recursionLimit) (hun : un + 40 < cLine) (hx : (x, instObj 78 d) ∈ news) (hxd : (d, dictOf (vecD w.params t1 t2 t3 t4 t5 tm l) 5) ∈ news) (hl : (l, listOf vs.toArray c) ∈ news)
    (ret : ∀ h' tk', Fr h₀ L h' m → News h₀ L h' news → Q (.bool false) { s with heap := h', toks := tk' }) :
    wpAny (model Challenge.pw_ov0077_01 w) (ktrTop dp un gd cn cs L a ccd cl outer) (call (.ref 447) [.ref x]) Q E s := by
  have kMk : KstMark := kstMark
  k_steps
  exact ret _ _ (by assumption) (by cb_eq)
theorem integer_op_spec {w : World} {p : Program} {loose : List Str} {mean : ExcName → Option Value} {mg mb : Str → Option Value}
    {dp un : Nat} {gd : Option (List Code)} {cn : Str} {cs : Scope} {a : Addr} {ccd : Value} {cl : List (Str × Addr)} {outer : List Env} {A₀ : Around} {base h₀ : Heap} {L : Addr} {m : Str → Option Value} {news : List (Addr × Obj)} {s : Shared} {Q E : Value → Shared → Prop} {x y : Int} {t1 t2 tm : Tok}
    (B : Below A₀ base outer h₀) (F : Fr h₀ L s.heap m) (X : (frag.heap_1 w.params).In h₀) (N : News h₀ L s.heap news) (T : Top p loose mean mg mb h₀) (hk : cs.kind = .function) (hdp : dp + 4 < recursionLimit) (hun : un + 30 < cLine) (h1 : -1000 < x - y) (h2 : x - y < 1000)
    (ret : ∀ t h' tk', Fr h₀ L h' m → News h₀ L h' news → Q (.int (x - y) t) { s with heap := h', toks := tk' }) :
    wpAny (model Challenge.pw_ov0077_01 w) (ktrTop dp un gd cn cs L a ccd cl outer) (call (.ref 395) [.str (Str.ofString "-") tm, .int x t1, .int y t2]) Q E s := by
  have kMk : KstMark := kstMark
  k_steps
  exact ret _ _ _ (by assumption) (by cb_eq)
end
local macro_rules | `(tactic| walk_at "call ref") => `(tactic| ((with_reducible show wpAny _ _ (call (Value.ref 78) _ _) _ _ _); k_dflt (refine' vector_spec (by k_asm) (by k_asm) (by k_asm) (by k_asm) (by k_asm) (by first | exact rfl | assumption) (by ktr_room) (by ktr_units) ?_;  k_whole); intro _ _ _ _ _ _ _ _ _ l9 l8; intros; (try dsimp only); (try k_lt l9); (try k_lt2 l8); (try k_fold)))
section
local macro_rules | `(tactic| walk_at "call ref") => `(tactic| ((with_reducible show wpAny _ _ (call (Value.ref 103) _ _) _ _ _); k_dflt (refine' length_spec (by k_asm) (by k_asm) (by k_asm) (by k_asm) (by k_asm) (by first | exact rfl | assumption) (by ktr_room) (by ktr_units) (by k_mem) (by k_mem) (by k_mem) (by omega) ?_;  k_whole); walk_at "fin"))
local macro_rules | `(tactic| walk_at "call ref") => `(tactic| ((with_reducible show wpAny _ _ (call (Value.ref 155) _ _) _ _ _); k_dflt (refine' dim_of_spec (by k_asm) (by k_asm) (by k_asm) (by k_asm) (by k_asm) (by first | exact rfl | assumption) (by ktr_room) (by ktr_units) (by k_mem) (by k_mem) (by k_mem) ?_;  k_whole); walk_at "fin"))
local macro_rules | `(tactic| walk_at "call ref") => `(tactic| ((with_reducible show wpAny _ _ (call (Value.ref 416) _ _) _ _ _); k_dflt (refine' number_items_spec (by k_asm) (by k_asm) (by k_asm) (by k_asm) (by k_asm) (by first | exact rfl | assumption) (by ktr_room) (by ktr_units) (by k_mem) (by k_mem) (by k_mem) ?_;  k_whole); walk_at "fin"))
local macro_rules | `(tactic| walk_at "call ref") => `(tactic| ((with_reducible show wpAny _ _ (call (Value.ref 447) _ _) _ _ _); k_dflt (refine' is_factor_spec (by k_asm) (by k_asm) (by k_asm) (by k_asm) (by k_asm) (by first | exact rfl | assumption) (by ktr_room) (by ktr_units) (by k_mem) (by k_mem) (by k_mem) ?_;  k_whole); walk_at "fin"))
local macro_rules | `(tactic| walk_at "call ref") => `(tactic| ((with_reducible show wpAny _ _ (call (Value.ref 395) _ _) _ _ _); k_dflt (refine' integer_op_spec (by k_asm) (by k_asm) (by k_asm) (by k_asm) (by k_asm) (by first | exact rfl | assumption) (by ktr_room) (by ktr_units) (by omega) (by omega) ?_;  k_whole); walk_at "fin"))
theorem names_of_spec {w : World} {p : Program} {loose : List Str} {mean : ExcName → Option Value} {mg mb : Str → Option Value}
    {dp un : Nat} {gd : Option (List Code)} {cn : Str} {cs : Scope} {a : Addr} {ccd : Value} {cl : List (Str × Addr)} {outer : List Env} {A₀ : Around} {base h₀ : Heap} {L : Addr} {m : Str → Option Value} {news : List (Addr × Obj)} {s : Shared} {Q E : Value → Shared → Prop} {l x d : Addr} {t1 t2 t3 t4 t5 tm : Tok} {vs : List Value} {c : Nat}
    (B : Below A₀ base outer h₀) (F : Fr h₀ L s.heap m) (X : (frag.heap_1 w.params).In h₀) (N : News h₀ L s.heap news) (T : Top p loose mean mg mb h₀) (hk : cs.kind = .function) (hdp : dp + 6 < recursionLimit) (hun : un + 60 < cLine) (hx : (x, instObj 78 d) ∈ news) (hxd : (d, dictOf (vecD w.params t1 t2 t3 t4 t5 tm l) 5) ∈ news) (hl : (l, listOf vs.toArray c) ∈ news)
    (ret : ∀ h' tk', Fr h₀ L h' m → News h₀ L h' news → Q .none { s with heap := h', toks := tk' }) :
    wpAny (model Challenge.pw_ov0077_01 w) (ktrTop dp un gd cn cs L a ccd cl outer) (call (.ref 148) [.ref x]) Q E s := by
  have kMk : KstMark := kstMark
  k_steps
  exact ret _ _ (by assumption) (by cb_eq)
theorem result_dim_spec {w : World} {p : Program} {loose : List Str} {mean : ExcName → Option Value} {mg mb : Str → Option Value}
    {dp un : Nat} {gd : Option (List Code)} {cn : Str} {cs : Scope} {a : Addr} {ccd : Value} {cl : List (Str × Addr)} {outer : List Env} {A₀ : Around} {base h₀ : Heap} {L : Addr} {m : Str → Option Value} {news : List (Addr × Obj)} {s : Shared} {Q E : Value → Shared → Prop} {l x d : Addr} {t1 t2 t3 t4 t5 tm : Tok} {vs : List Value} {c : Nat} {l2 x2 d2 : Addr} {s1 s2 s3 s4 s5 sm : Tok} {ws : List Value} {c2 : Nat}
    (B : Below A₀ base outer h₀) (F : Fr h₀ L s.heap m) (X : (frag.heap_1 w.params).In h₀) (N : News h₀ L s.heap news) (T : Top p loose mean mg mb h₀) (hk : cs.kind = .function) (hdp : dp + 6 < recursionLimit) (hun : un + 60 < cLine) (hx : (x, instObj 78 d) ∈ news) (hxd : (d, dictOf (vecD w.params t1 t2 t3 t4 t5 tm l) 5) ∈ news) (hl : (l, listOf vs.toArray c) ∈ news) (hx2 : (x2, instObj 78 d2) ∈ news) (hxd2 : (d2, dictOf (vecD w.params s1 s2 s3 s4 s5 sm l2) 5) ∈ news) (hl2 : (l2, listOf ws.toArray c2) ∈ news) (hb : vs.length < 2 ^ 20) (hb2 : ws.length < 2 ^ 20)
    (ret : ∀ h' tk', Fr h₀ L h' m → News h₀ L h' news → Q .none { s with heap := h', toks := tk' }) :
    wpAny (model Challenge.pw_ov0077_01 w) (ktrTop dp un gd cn cs L a ccd cl outer) (call (.ref 353) [.ref x, .ref x2]) Q E s := by
  have kMk : KstMark := kstMark
  k_steps
  exact ret _ _ (by assumption) (by cb_eq)
local macro_rules | `(tactic| walk_at "call ref") => `(tactic| ((with_reducible show wpAny _ _ (call (Value.ref 353) _ _) _ _ _); k_dflt (refine' result_dim_spec (by k_asm) (by k_asm) (by k_asm) (by k_asm) (by k_asm) (by first | exact rfl | assumption) (by ktr_room) (by ktr_units) (by k_mem) (by k_mem) (by k_mem) (by k_mem) (by k_mem) (by k_mem) (by omega) (by omega) ?_;  k_whole); walk_at "fin"))
theorem note_one_spec {w : World} {p : Program} {loose : List Str} {mean : ExcName → Option Value} {mg mb : Str → Option Value}
    {dp un : Nat} {gd : Option (List Code)} {cn : Str} {cs : Scope} {a : Addr} {ccd : Value} {cl : List (Str × Addr)} {outer : List Env} {A₀ : Around} {base h₀ : Heap} {L : Addr} {m : Str → Option Value} {news : List (Addr × Obj)} {s : Shared} {Q E : Value → Shared → Prop} {l x d : Addr} {t1 t2 t3 t4 t5 tm : Tok} {vs : List Value} {c : Nat} {l2 x2 d2 : Addr} {s1 s2 s3 s4 s5 sm : Tok} {ws : List Value} {c2 : Nat} {nt : Value}
    (B : Below A₀ base outer h₀) (F : Fr h₀ L s.heap m) (X : (frag.heap_1 w.params).In h₀) (N : News h₀ L s.heap news) (T : Top p loose mean mg mb h₀) (hk : cs.kind = .function) (hdp : dp + 6 < recursionLimit) (hun : un + 60 < cLine) (hx : (x, instObj 78 d) ∈ news) (hxd : (d, dictOf (vecD w.params t1 t2 t3 t4 t5 tm l) 5) ∈ news) (hl : (l, listOf vs.toArray c) ∈ news) (hx2 : (x2, instObj 78 d2) ∈ news) (hxd2 : (d2, dictOf (vecD w.params s1 s2 s3 s4 s5 sm l2) 5) ∈ news) (hl2 : (l2, listOf ws.toArray c2) ∈ news)
    (ret : ∀ h' tk', Fr h₀ L h' m → News h₀ L h' news → Q .none { s with heap := h', toks := tk' }) :
    wpAny (model Challenge.pw_ov0077_01 w) (ktrTop dp un gd cn cs L a ccd cl outer) (call (.ref 360) [.ref x, .ref x2, nt]) Q E s := by
  have kMk : KstMark := kstMark
  k_steps
  exact ret _ _ (by assumption) (by cb_eq)
local macro_rules | `(tactic| walk_at "call ref") => `(tactic| ((with_reducible show wpAny _ _ (call (Value.ref 360) _ _) _ _ _); k_dflt (refine' note_one_spec (by k_asm) (by k_asm) (by k_asm) (by k_asm) (by k_asm) (by first | exact rfl | assumption) (by ktr_room) (by ktr_units) (by k_mem) (by k_mem) (by k_mem) (by k_mem) (by k_mem) (by k_mem) ?_;  k_whole); walk_at "fin"))
theorem note_rec_spec {w : World} {p : Program} {loose : List Str} {mean : ExcName → Option Value} {mg mb : Str → Option Value}
    {dp un : Nat} {gd : Option (List Code)} {cn : Str} {cs : Scope} {a : Addr} {ccd : Value} {cl : List (Str × Addr)} {outer : List Env} {A₀ : Around} {base h₀ : Heap} {L : Addr} {m : Str → Option Value} {news : List (Addr × Obj)} {s : Shared} {Q E : Value → Shared → Prop} {n n' : Int} {t1 t2 : Tok} {nt : Value}
    (B : Below A₀ base outer h₀) (F : Fr h₀ L s.heap m) (X : (frag.heap_1 w.params).In h₀) (N : News h₀ L s.heap news) (T : Top p loose mean mg mb h₀) (hk : cs.kind = .function) (hdp : dp + 6 < recursionLimit) (hun : un + 60 < cLine) (h0 : n' = n) (h1 : 0 < n) (h2 : n < 2 ^ 20)
    (ret : ∀ h' tk', Fr h₀ L h' m → News h₀ L h' news → Q .none { s with heap := h', toks := tk' }) :
    wpAny (model Challenge.pw_ov0077_01 w) (ktrTop dp un gd cn cs L a ccd cl outer) (call (.ref 339) [.int n t1, .int n' t2, nt]) Q E s := by
  subst h0
  have kMk : KstMark := kstMark
  k_steps
  · rename (Int.fmod _ _ ≠ 0) => hne
    exact absurd (by simp) hne
  · exact ret _ _ (by assumption) (by cb_eq)
local macro_rules | `(tactic| walk_at "call ref") => `(tactic| ((with_reducible show wpAny _ _ (call (Value.ref 339) _ _) _ _ _); k_dflt (refine' note_rec_spec (by k_asm) (by k_asm) (by k_asm) (by k_asm) (by k_asm) (by first | exact rfl | assumption) (by ktr_room) (by ktr_units) (by omega) (by omega) (by omega) ?_;  k_whole); walk_at "fin"))
theorem recycle_spec {w : World} {p : Program} {loose : List Str} {mean : ExcName → Option Value} {mg mb : Str → Option Value}
    {dp un : Nat} {gd : Option (List Code)} {cn : Str} {cs : Scope} {a : Addr} {ccd : Value} {cl : List (Str × Addr)} {outer : List Env} {A₀ : Around} {base h₀ : Heap} {L : Addr} {m : Str → Option Value} {news : List (Addr × Obj)} {s : Shared} {Q E : Value → Shared → Prop} {n n' : Int} {t1 t2 : Tok}
    (B : Below A₀ base outer h₀) (F : Fr h₀ L s.heap m) (X : (frag.heap_1 w.params).In h₀) (N : News h₀ L s.heap news) (T : Top p loose mean mg mb h₀) (hk : cs.kind = .function) (hdp : dp + 6 < recursionLimit) (hun : un + 60 < cLine) (h0 : n' = n) (h1 : 0 < n) (h2 : n < 2 ^ 20)
    (ret : ∀ t h' tk', Fr h₀ L h' m → News h₀ L h' news → Q (.int n t) { s with heap := h', toks := tk' }) :
    wpAny (model Challenge.pw_ov0077_01 w) (ktrTop dp un gd cn cs L a ccd cl outer) (call (.ref 332) [.int n t1, .int n' t2]) Q E s := by
  subst h0
  have kMk : KstMark := kstMark
  k_steps
  · omega
  · omega
  · rw [show (if n' > n' then n' else n') = n' by simp]
    exact ret _ _ _ (by assumption) (by cb_eq)
local macro_rules | `(tactic| walk_at "call ref") => `(tactic| ((with_reducible show wpAny _ _ (call (Value.ref 332) _ _) _ _ _); k_dflt (refine' recycle_spec (by k_asm) (by k_asm) (by k_asm) (by k_asm) (by k_asm) (by first | exact rfl | assumption) (by ktr_room) (by ktr_units) (by omega) (by omega) (by omega) ?_;  k_whole); walk_at "fin"))
local macro_rules | `(tactic| walk_at "exec For Name Tuple cons nil") => `(tactic| (k_here; (rename Fr _ _ _ _ => lF'); (with_unfolding_all refine' For_invVF lF' ?k1 ?k2 ?_; (case k1 => exact rfl); (case k2 => exact rfl); k_whole)))
theorem common_length_spec {w : World} {p : Program} {loose : List Str} {mean : ExcName → Option Value} {mg mb : Str → Option Value}
    {dp un : Nat} {gd : Option (List Code)} {cn : Str} {cs : Scope} {a : Addr} {ccd : Value} {cl : List (Str × Addr)} {outer : List Env} {A₀ : Around} {base h₀ : Heap} {L : Addr} {m : Str → Option Value} {news : List (Addr × Obj)} {s : Shared} {Q E : Value → Shared → Prop} {l x d : Addr} {t1 t2 t3 t4 t5 tm : Tok} {vs : List Value} {c : Nat} {l2 x2 d2 : Addr} {s1 s2 s3 s4 s5 sm : Tok} {ws : List Value} {c2 : Nat} {nt : Value}
    (B : Below A₀ base outer h₀) (F : Fr h₀ L s.heap m) (X : (frag.heap_1 w.params).In h₀) (N : News h₀ L s.heap news) (T : Top p loose mean mg mb h₀) (hk : cs.kind = .function) (hdp : dp + 10 < recursionLimit) (hun : un + 100 < cLine) (hx : (x, instObj 78 d) ∈ news) (hxd : (d, dictOf (vecD w.params t1 t2 t3 t4 t5 tm l) 5) ∈ news) (hl : (l, listOf vs.toArray c) ∈ news) (hx2 : (x2, instObj 78 d2) ∈ news) (hxd2 : (d2, dictOf (vecD w.params s1 s2 s3 s4 s5 sm l2) 5) ∈ news) (hl2 : (l2, listOf ws.toArray c2) ∈ news) (hb : vs.length < 2 ^ 20) (he : ws.length = vs.length) (h0 : 0 < vs.length)
    (ret : ∀ t h' tk', Fr h₀ L h' m → News h₀ L h' news → Q (.int vs.length t) { s with heap := h', toks := tk' }) :
    wpAny (model Challenge.pw_ov0077_01 w) (ktrTop dp un gd cn cs L a ccd cl outer) (call (.ref 367) [.ref x, .ref x2, nt]) Q E s := by
  have kMk : KstMark := kstMark
  k_steps
  exact ret _ _ _ (by assumption) (by cb_eq)
theorem shape_attrs_spec {w : World} {p : Program} {loose : List Str} {mean : ExcName → Option Value} {mg mb : Str → Option Value}
    {dp un : Nat} {gd : Option (List Code)} {cn : Str} {cs : Scope} {a : Addr} {ccd : Value} {cl : List (Str × Addr)} {outer : List Env} {A₀ : Around} {base h₀ : Heap} {L : Addr} {m : Str → Option Value} {news : List (Addr × Obj)} {s : Shared} {Q E : Value → Shared → Prop} {l x d : Addr} {t1 t2 t3 t4 t5 tm : Tok} {vs : List Value} {c : Nat} {l2 x2 d2 : Addr} {s1 s2 s3 s4 s5 sm : Tok} {ws : List Value} {c2 : Nat} {rs : Value}
    (B : Below A₀ base outer h₀) (F : Fr h₀ L s.heap m) (X : (frag.heap_1 w.params).In h₀) (N : News h₀ L s.heap news) (T : Top p loose mean mg mb h₀) (hk : cs.kind = .function) (hdp : dp + 10 < recursionLimit) (hun : un + 100 < cLine) (hx : (x, instObj 78 d) ∈ news) (hxd : (d, dictOf (vecD w.params t1 t2 t3 t4 t5 tm l) 5) ∈ news) (hl : (l, listOf vs.toArray c) ∈ news) (hx2 : (x2, instObj 78 d2) ∈ news) (hxd2 : (d2, dictOf (vecD w.params s1 s2 s3 s4 s5 sm l2) 5) ∈ news) (hl2 : (l2, listOf ws.toArray c2) ∈ news) (hb : vs.length < 2 ^ 20) (hb2 : ws.length < 2 ^ 20)
    (ret : ∀ h' tk', Fr h₀ L h' m → News h₀ L h' news → Q .none { s with heap := h', toks := tk' }) :
    wpAny (model Challenge.pw_ov0077_01 w) (ktrTop dp un gd cn cs L a ccd cl outer) (call (.ref 381) [.ref x, .ref x2, rs]) Q E s := by
  have kMk : KstMark := kstMark
  k_steps
  rename Fr _ _ _ _ => lF
  rename News _ _ _ _ => lN
  refine tup_loop [Str.ofString "heads"] (fun _ _ nx => nx = _) rfl (by k_mem) lF lN rfl ?_ ?_
  · intro i v u nx h tk own hi ho hm hJ F1 N1
    subst hJ
    have hv : v = .ref x2 ∨ v = .ref x := by
      rcases i with _ | _ | i
      · simp at hi; exact .inl hi.symm
      · simp at hi; exact .inr hi.symm
      · simp at hi
    rcases hv with rfl | rfl
    all_goals (
      refine hidQ fun QQ hQQ => ?_
      k_steps
      refine hidOf hQQ ?_
      k_steps
      exact InvEndG.intro (by assumption) (by assumption) ⟨hm, by tb_rel, rfl⟩ ho (fun p hp => List.mem_append.mpr (.inl hp)) (fun p hp => List.mem_append.mpr (.inr hp)))
  · intro u nx h tk hJ F1 N1
    subst hJ
    k_steps
    exact ret _ _ (by assumption) (by cb_eq)
local macro_rules | `(tactic| walk_at "call ref") => `(tactic| ((with_reducible show wpAny _ _ (call (Value.ref 381) _ _) _ _ _); k_dflt (refine' shape_attrs_spec (by k_asm) (by k_asm) (by k_asm) (by k_asm) (by k_asm) (by first | exact rfl | assumption) (by ktr_room) (by ktr_units) (by k_mem) (by k_mem) (by k_mem) (by k_mem) (by k_mem) (by k_mem) (by omega) (by omega) ?_;  k_whole); walk_at "fin"))
theorem result_attrs_spec {w : World} {p : Program} {loose : List Str} {mean : ExcName → Option Value} {mg mb : Str → Option Value}
    {dp un : Nat} {gd : Option (List Code)} {cn : Str} {cs : Scope} {a : Addr} {ccd : Value} {cl : List (Str × Addr)} {outer : List Env} {A₀ : Around} {base h₀ : Heap} {L : Addr} {m : Str → Option Value} {news : List (Addr × Obj)} {s : Shared} {Q E : Value → Shared → Prop} {l x d : Addr} {t1 t2 t3 t4 t5 tm : Tok} {vs : List Value} {c : Nat} {l2 x2 d2 : Addr} {s1 s2 s3 s4 s5 sm : Tok} {ws : List Value} {c2 : Nat} {rs : Value}
    (B : Below A₀ base outer h₀) (F : Fr h₀ L s.heap m) (X : (frag.heap_1 w.params).In h₀) (N : News h₀ L s.heap news) (T : Top p loose mean mg mb h₀) (hk : cs.kind = .function) (hdp : dp + 14 < recursionLimit) (hun : un + 140 < cLine) (hx : (x, instObj 78 d) ∈ news) (hxd : (d, dictOf (vecD w.params t1 t2 t3 t4 t5 tm l) 5) ∈ news) (hl : (l, listOf vs.toArray c) ∈ news) (hx2 : (x2, instObj 78 d2) ∈ news) (hxd2 : (d2, dictOf (vecD w.params s1 s2 s3 s4 s5 sm l2) 5) ∈ news) (hl2 : (l2, listOf ws.toArray c2) ∈ news) (hb : vs.length < 2 ^ 20) (hb2 : ws.length < 2 ^ 20)
    (ret : ∀ h' tk', Fr h₀ L h' m → News h₀ L h' news → Q .none { s with heap := h', toks := tk' }) :
    wpAny (model Challenge.pw_ov0077_01 w) (ktrTop dp un gd cn cs L a ccd cl outer) (call (.ref 388) [.ref x, .ref x2, rs]) Q E s := by
  have kMk : KstMark := kstMark
  k_steps
  rename Fr _ _ _ _ => lF
  rename News _ _ _ _ => lN
  refine tup_loop [] (fun _ _ nx => nx = _) rfl (by k_mem) lF lN rfl ?_ ?_
  · intro i v u nx h tk own hi ho hm hJ F1 N1
    subst hJ
    have hv : v = .ref x2 ∨ v = .ref x := by
      rcases i with _ | _ | i
      · simp at hi; exact .inl hi.symm
      · simp at hi; exact .inr hi.symm
      · simp at hi
    rcases hv with rfl | rfl
    all_goals (
      refine hidQ fun QQ hQQ => ?_
      k_steps
      refine hidOf hQQ ?_
      k_steps
      exact InvEndG.intro (by assumption) (by assumption) ⟨hm, by tb_rel, rfl⟩ ho (fun p hp => List.mem_append.mpr (.inl hp)) (fun p hp => List.mem_append.mpr (.inr hp)))
  · intro u nx h tk hJ F1 N1
    subst hJ
    k_steps
    exact ret _ _ (by assumption) (by cb_eq)
end
section
local macro_rules | `(tactic| walk_at "call ref") => `(tactic| ((with_reducible show wpAny _ _ (call (Value.ref 148) _ _) _ _ _); k_dflt (refine' names_of_spec (by k_asm) (by k_asm) (by k_asm) (by k_asm) (by k_asm) (by first | exact rfl | assumption) (by ktr_room) (by ktr_units) (by k_mem) (by k_mem) (by k_mem) ?_;  k_whole); walk_at "fin"))
local macro_rules | `(tactic| walk_at "call ref") => `(tactic| ((with_reducible show wpAny _ _ (call (Value.ref 447) _ _) _ _ _); k_dflt (refine' is_factor_spec (by k_asm) (by k_asm) (by k_asm) (by k_asm) (by k_asm) (by first | exact rfl | assumption) (by ktr_room) (by ktr_units) (by k_mem) (by k_mem) (by k_mem) ?_;  k_whole); walk_at "fin"))
local macro_rules | `(tactic| walk_at "eval ListComp") => `(tactic| (k_here; k_dflt (refine listcomp_rest (F₀ := by k_asm) (by with_unfolding_all rfl) (by decide) (by rfl) (by decide) (by rfl) ?_)))
local macro_rules | `(tactic| walk_at "subscriptTail") => `(tactic| (k_here; (with_reducible show wpAny _ _ (subscriptTail _ _ (Value.ref _) (Value.int _ _)) _ _ _); k_dflt (refine item_gen (by k_asm) (by k_mem) (by omega) (by omega) (by omega) ?_); intro v9 hv9))
theorem pick_spec {w : World} {p : Program} {loose : List Str} {mean : ExcName → Option Value} {mg mb : Str → Option Value}
    {dp un : Nat} {gd : Option (List Code)} {cn : Str} {cs : Scope} {a : Addr} {ccd : Value} {cl : List (Str × Addr)} {outer : List Env} {A₀ : Around} {base h₀ : Heap} {L : Addr} {m : Str → Option Value} {news : List (Addr × Obj)} {s : Shared} {Q E : Value → Shared → Prop} {l x d : Addr} {t1 t2 t3 t4 t5 tm : Tok} {vs : List Value} {c : Nat} {lp : Addr} {us : List Value} {ps : List Int} {c2 : Nat}
    (B : Below A₀ base outer h₀) (F : Fr h₀ L s.heap m) (X : (frag.heap_1 w.params).In h₀) (N : News h₀ L s.heap news) (T : Top p loose mean mg mb h₀) (hk : cs.kind = .function) (hdp : dp + 12 < recursionLimit) (hun : un + 120 < cLine) (hx : (x, instObj 78 d) ∈ news) (hxd : (d, dictOf (vecD w.params t1 t2 t3 t4 t5 tm l) 5) ∈ news) (hl : (l, listOf vs.toArray c) ∈ news) (hlp : (lp, listOf us.toArray c2) ∈ news) (hi : IntsAre us ps) (hb : vs.length < 2 ^ 20) (hb2 : ps.length < 2 ^ 20) (hin : ∀ k ∈ ps, 0 ≤ k ∧ k < vs.length)
    (ret : ∀ y e l' (ys : List Value) c' t1 t2 t3 t4 t5 h' tk', ys.length = ps.length → (∀ (i : Nat) v, ys[i]? = some v → ∃ k, ps[i]? = some k ∧ vs[k.toNat]? = some v) → LCg.Off1 l' news → (∀ q ∈ news, q.1 < e) → l' < e → e < y → Fr h₀ L h' m →
      News h₀ L h' ((y, instObj 78 e) :: (e, dictOf (vecD w.params t1 t2 t3 t4 t5 tm l') 5) :: (l', listOf ys.toArray c') :: news) → Q (.ref y) { s with heap := h', toks := tk' }) :
    wpAny (model Challenge.pw_ov0077_01 w) (ktrTop dp un gd cn cs L a ccd cl outer) (call (.ref 452) [.ref x, .ref lp]) Q E s := by
  have kMk : KstMark := kstMark
  have hlen := IntsAre.length hi
  k_steps
  rename Fr _ _ _ _ => lF
  rename News _ _ _ _ => lN
  refine LCg.CompSrc.ledger rfl lF lN (by k_mem) (by rw [PySem.sizeLine_eq, List.size_toArray]; omega) ?_
  intro g
  refine comp_rest (fun i y => ∃ k, ps[i]? = some k ∧ vs[k.toNat]? = some y) ?_ ?_
  · intro i v I oI C oC D m₂ ys h tk E' hi' hv hC hx F1 N1 off ne
    obtain ⟨k, t, rfl, hk⟩ := IntsAre.at hi i v (by simpa using hv)
    have hkb := hin k (List.mem_of_getElem? hk)
    k_steps
    exact LCg.CompEnd.intro (by assumption) (by assumption) _ (fun p hp => hp) off (Or.inr ⟨_, by k_mem, rfl, _, rfl⟩) ⟨rfl, k, hk, by assumption⟩
  · intro ys hl hy D h tk F1 N1 o1
    simp only [LCg.Off1, and_true] at o1
    rename (∀ p, p ∈ news → p.1 < _) => l1
    have l2 := fun p hp => Nat.ne_of_lt (Nat.lt_succ_of_lt (l1 p hp))
    have l3 := fun p hp => Nat.ne_of_lt (Nat.lt_succ_of_lt (Nat.lt_succ_of_lt (l1 p hp)))
    k_steps
    rename (_ < _ ∧ _ ∧ _ ∧ AllLt _ _) => l9
    exact ret _ _ _ ys _ _ _ _ _ _ _ _ (by rw [hl, List.size_toArray, hlen]) hy o1.2.2 (kst_ltOf l9.2.2.2) l9.1 (by assumption) (by assumption)
      (fun p hp => (by assumption : News h₀ L _ _) p (by
        rcases List.mem_cons.mp hp with rfl | hp
        · exact .head _
        rcases List.mem_cons.mp hp with rfl | hp
        · exact .tail _ (.head _)
        rcases List.mem_cons.mp hp with rfl | hp
        · exact .tail _ (.tail _ (.head _))
        · exact .tail _ (.tail _ (.tail _ (.tail _ (.tail _ hp))))))
end
local macro_rules | `(tactic| walk_at "pyIter ref") => `(tactic| ((with_reducible show wpAny _ _ (pyIter (Value.ref _)) (fun it s₂ => LoopAtV _ _ _ _ _ _ _ _ _ it s₂) _ _); refine rest_intro ?_))
local macro_rules | `(tactic| walk_at "exec For Name Call cons nil") => `(tactic| (k_here; (rename Fr _ _ _ _ => lF'); (with_unfolding_all refine' For_invVF lF' ?k1 ?k2 ?_; (case k1 => exact rfl); (case k2 => exact rfl); k_whole)))
section
local macro_rules | `(tactic| walk_at "call ref") => `(tactic| ((with_reducible show wpAny _ _ (call (Value.ref 395) _ _) _ _ _); k_dflt (refine' integer_op_spec (by k_asm) (by k_asm) (by k_asm) (by k_asm) (by k_asm) (by first | exact rfl | assumption) (by ktr_room) (by ktr_units) (by omega) (by omega) ?_;  k_whole); walk_at "fin"))
local macro_rules | `(tactic| walk_at "call ref") => `(tactic| ((with_reducible show wpAny _ _ (call (Value.ref 416) _ _) _ _ _); k_dflt (refine' number_items_spec (by k_asm) (by k_asm) (by k_asm) (by k_asm) (by k_asm) (by first | exact rfl | assumption) (by ktr_room) (by ktr_units) (by k_mem) (by k_mem) (by k_mem) ?_;  k_whole); walk_at "fin"))
local macro_rules | `(tactic| walk_at "call ref") => `(tactic| ((with_reducible show wpAny _ _ (call (Value.ref 367) _ _) _ _ _); k_dflt (refine' common_length_spec (by k_asm) (by k_asm) (by k_asm) (by k_asm) (by k_asm) (by first | exact rfl | assumption) (by ktr_room) (by ktr_units) (by k_mem) (by k_mem) (by k_mem) (by k_mem) (by k_mem) (by k_mem) (by omega) (by omega) (by omega) ?_;  k_whole); walk_at "fin"))
local macro_rules | `(tactic| walk_at "call ref") => `(tactic| ((with_reducible show wpAny _ _ (call (Value.ref 388) _ _) _ _ _); k_dflt (refine' result_attrs_spec (by k_asm) (by k_asm) (by k_asm) (by k_asm) (by k_asm) (by first | exact rfl | assumption) (by ktr_room) (by ktr_units) (by k_mem) (by k_mem) (by k_mem) (by k_mem) (by k_mem) (by k_mem) (by omega) (by omega) ?_;  k_whole); walk_at "fin"))
theorem integer_result_spec {w : World} {p : Program} {loose : List Str} {mean : ExcName → Option Value} {mg mb : Str → Option Value}
    {dp un : Nat} {gd : Option (List Code)} {cn : Str} {cs : Scope} {a : Addr} {ccd : Value} {cl : List (Str × Addr)} {outer : List Env} {A₀ : Around} {base h₀ : Heap} {L : Addr} {m : Str → Option Value} {news : List (Addr × Obj)} {s : Shared} {Q E : Value → Shared → Prop} {l l2 : Addr} {vs ws : List Value} {ns ms : List Int} {c c2 : Nat} {n : Int} {tm t0 : Tok} {nt : Value}
    (B : Below A₀ base outer h₀) (F : Fr h₀ L s.heap m) (X : (frag.heap_1 w.params).In h₀) (N : News h₀ L s.heap news) (T : Top p loose mean mg mb h₀) (hk : cs.kind = .function) (hdp : dp + 8 < recursionLimit) (hun : un + 80 < cLine) (hl : (l, listOf vs.toArray c) ∈ news) (hl2 : (l2, listOf ws.toArray c2) ∈ news) (hi : IntsAre vs ns) (hi2 : IntsAre ws ms) (hn : n = ns.length) (hn2 : ms.length = ns.length) (hb : ns.length < 2 ^ 20)
    (hop : ∀ (i : Nat) a b, ns[i]? = some a → ms[i]? = some b → -1000 < a - b ∧ a - b < 1000)
    (ret : ∀ l' ys c' h' tk', IntsAre ys (List.zipWith (fun a b => a - b) ns ms) → (∀ q ∈ news, q.1 < l') → Fr h₀ L h' m → News h₀ L h' ((l', listOf ys.toArray c') :: news) → Q (.ref l') { s with heap := h', toks := tk' }) :
    wpAny (model Challenge.pw_ov0077_01 w) (ktrTop dp un gd cn cs L a ccd cl outer) (call (.ref 428) [.str (Str.ofString "-") tm, .ref l, .ref l2, .int n t0, nt]) Q E s := by
  have kMk : KstMark := kstMark
  have hlen := IntsAre.length hi
  have hlen2 := IntsAre.length hi2
  k_steps
  rename Fr _ _ _ _ => lF
  rename News _ _ _ _ => lN
  rename IsRange _ _ _ _ _ _ _ _ => rg
  rename (∀ p, p ∈ news → p.1 < _) => l1
  refine name_lt l1 fun l' el => ?_
  subst el
  refine range_loop [Str.ofString "a", Str.ofString "b", Str.ofString "value"] (fun i _ nx => ∃ (ys : List Value) (c' : Nat), nx = (l', listOf ys.toArray c') :: news ∧ IntsAre ys ((List.zipWith (fun a b => a - b) ns ms).take i)) rfl rg (small_one (by omega) (by omega) (by omega) (by omega)) (rangeSize_nat _ _) lF lN ⟨[], 0, rfl, .nil⟩ ?_ ?_
  · rintro i t u nx h tk own hlt ho ⟨ys, c', rfl, hy⟩ F1 N1
    have hil : i < ns.length := by omega
    have hm1 : ((0 : Int) + (i : Int)).fmod (vs.length : Int) = i := by rw [Int.zero_add]; exact Int.fmod_eq_of_lt (by omega) (by omega)
    have hm2 : ((0 : Int) + (i : Int)).fmod (ws.length : Int) = i := by rw [Int.zero_add]; exact Int.fmod_eq_of_lt (by omega) (by omega)
    have hg1 : ns[i]? = some (ns.getD i 0) := by simp [List.getD, hil]
    have hg2 : ms[i]? = some (ms.getD i 0) := by simp [List.getD, show i < ms.length by omega]
    have hbd : -1000 < ns.getD (((0 : Int) + (i : Int)).fmod (vs.length : Int)).toNat 0 - ms.getD (((0 : Int) + (i : Int)).fmod (ws.length : Int)).toNat 0 ∧ ns.getD (((0 : Int) + (i : Int)).fmod (vs.length : Int)).toNat 0 - ms.getD (((0 : Int) + (i : Int)).fmod (ws.length : Int)).toNat 0 < 1000 := by
      rw [hm1, hm2, Int.toNat_natCast]
      exact hop i _ _ hg1 hg2
    have hyl : ys.length ≤ ns.length := by rw [hy.length, List.length_take, List.length_zipWith]; omega
    simp only [List.cons_append] at N1
    refine hidQ fun QQ hQQ => ?_
    k_steps
    refine hidOf hQQ ?_
    k_steps
    rename News _ _ _ _ => lN2
    (try simp only [List.push_toArray] at lN2)
    have hz : (List.zipWith (fun a b => a - b) ns ms)[i]? = some (ns.getD (((0 : Int) + (i : Int)).fmod (vs.length : Int)).toNat 0 - ms.getD (((0 : Int) + (i : Int)).fmod (ws.length : Int)).toNat 0) := by
      rw [hm1, hm2, Int.toNat_natCast, List.getElem?_zipWith, hg1, hg2]
    refine end1 lN2 (by assumption) ⟨by tb_rel, _, _, rfl, ?_⟩ ho
    rw [List.take_add_one, hz]
    exact IntsAre.append hy (.cons _ _ .nil)
  · rintro u nx h tk ⟨ys, c', rfl, hy⟩ F1 N1
    k_steps
    have ht : (List.zipWith (fun a b => a - b) ns ms).take (n - 0).toNat = List.zipWith (fun a b => a - b) ns ms := List.take_of_length_le (by rw [List.length_zipWith]; omega)
    rw [ht] at hy
    exact ret _ _ _ _ _ hy l1 (by assumption) (by cb_eq)
local macro_rules | `(tactic| walk_at "call ref") => `(tactic| ((with_reducible show wpAny _ _ (call (Value.ref 428) _ _) _ _ _); k_dflt (refine' integer_result_spec (by k_asm) (by k_asm) (by k_asm) (by k_asm) (by k_asm) (by first | exact rfl | assumption) (by ktr_room) (by ktr_units) (by k_mem) (by k_mem) (by assumption) (by assumption) (by omega) (by omega) (by omega) (by assumption) ?_;  k_whole); intro _ _ _ _ _ _ lt9; intros; (try dsimp only); (try k_lt lt9); (try k_fold)))
theorem arith_spec {w : World} {p : Program} {loose : List Str} {mean : ExcName → Option Value} {mg mb : Str → Option Value}
    {dp un : Nat} {gd : Option (List Code)} {cn : Str} {cs : Scope} {a : Addr} {ccd : Value} {cl : List (Str × Addr)} {outer : List Env} {A₀ : Around} {base h₀ : Heap} {L : Addr} {m : Str → Option Value} {news : List (Addr × Obj)} {s : Shared} {Q E : Value → Shared → Prop} {l x d : Addr} {t1 t2 t3 t4 t5 tm : Tok} {vs : List Value} {c : Nat} {l2 x2 d2 : Addr} {s1 s2 s3 s4 s5 sm : Tok} {ws : List Value} {c2 : Nat} {ns ms : List Int} {tp : Tok} {nt : Value}
    (B : Below A₀ base outer h₀) (F : Fr h₀ L s.heap m) (X : (frag.heap_1 w.params).In h₀) (N : News h₀ L s.heap news) (T : Top p loose mean mg mb h₀) (hk : cs.kind = .function) (hdp : dp + 20 < recursionLimit) (hun : un + 200 < cLine) (hx : (x, instObj 78 d) ∈ news) (hxd : (d, dictOf (vecD w.params t1 t2 t3 t4 t5 tm l) 5) ∈ news) (hl : (l, listOf vs.toArray c) ∈ news) (hx2 : (x2, instObj 78 d2) ∈ news) (hxd2 : (d2, dictOf (vecD w.params s1 s2 s3 s4 s5 sm l2) 5) ∈ news) (hl2 : (l2, listOf ws.toArray c2) ∈ news) (hi : IntsAre vs ns) (hi2 : IntsAre ws ms) (hn2 : ms.length = ns.length) (h0 : 0 < ns.length) (hb : ns.length < 2 ^ 20)
    (hop : ∀ (i : Nat) a b, ns[i]? = some a → ms[i]? = some b → -1000 < a - b ∧ a - b < 1000)
    (ret : ∀ y e l' (ys : List Value) c' t1 t2 t3 t4 t5 tq h' tk', IntsAre ys (List.zipWith (fun a b => a - b) ns ms) → (∀ q ∈ news, q.1 < l') → l' < e → e < y → Fr h₀ L h' m →
      News h₀ L h' ((y, instObj 78 e) :: (e, dictOf (vecD w.params t1 t2 t3 t4 t5 tq l') 5) :: (l', listOf ys.toArray c') :: news) → Q (.ref y) { s with heap := h', toks := tk' }) :
    wpAny (model Challenge.pw_ov0077_01 w) (ktrTop dp un gd cn cs L a ccd cl outer) (call (.ref 440) [.str (Str.ofString "-") tp, .ref x, .ref x2, nt]) Q E s := by
  have kMk : KstMark := kstMark
  have hlen := IntsAre.length hi
  have hlen2 := IntsAre.length hi2
  k_steps
  rename (_ < _ ∧ AllLt _ news) => lt9
  rename (_ < _ ∧ _ < _ ∧ AllLt _ _) => l9
  exact ret _ _ _ _ _ _ _ _ _ _ _ _ _ (by assumption) (kst_ltOf lt9.2) l9.1 (by assumption) (by assumption) (News.no4 (by assumption))
local macro_rules | `(tactic| walk_at "call ref") => `(tactic| ((with_reducible show wpAny _ _ (call (Value.ref 440) _ _) _ _ _); k_dflt (refine' arith_spec (by k_asm) (by k_asm) (by k_asm) (by k_asm) (by k_asm) (by first | exact rfl | assumption) (by ktr_room) (by ktr_units) (by k_mem) (by k_mem) (by k_mem) (by k_mem) (by k_mem) (by k_mem) (by assumption) (by assumption) (by assumption) (by omega) (by omega) (by assumption) ?_;  k_whole); intro _ _ _ _ _ _ _ _ _ _ _ _ _ _ lt9 lt8 lt7; intros; (try dsimp only); (try k_lt lt9); (try k_lt2 lt8); (try k_lt2 lt7); (try k_fold)))
end
section
local macro_rules | `(tactic| walk_at "call ref") => `(tactic| ((with_reducible show wpAny _ _ (call (Value.ref 103) _ _) _ _ _); k_dflt (refine' length_spec (by k_asm) (by k_asm) (by k_asm) (by k_asm) (by k_asm) (by first | exact rfl | assumption) (by ktr_room) (by ktr_units) (by k_mem) (by k_mem) (by k_mem) (by omega) ?_;  k_whole); walk_at "fin"))
local macro_rules | `(tactic| walk_at "call ref") => `(tactic| ((with_reducible show wpAny _ _ (call (Value.ref 452) _ _) _ _ _); k_dflt (refine' pick_spec (by k_asm) (by k_asm) (by k_asm) (by k_asm) (by k_asm) (by first | exact rfl | assumption) (by ktr_room) (by ktr_units) (by k_mem) (by k_mem) (by k_mem) (by k_mem) (by assumption) (by omega) (by (simp only [rangeKs_length]; omega)) (by (intro k9 hk9; have hm9 := mem_rangeKs hk9; omega)) ?_;  k_whole); intros; (try dsimp only); refine rest_intro ?_; (try k_fold)))
local macro_rules | `(tactic| walk_at "call ref") => `(tactic| ((with_reducible show wpAny _ _ (call (Value.ref 440) _ _) _ _ _); refine rest_intro ?_))
local macro_rules | `(tactic| walk_at "call ref") => `(tactic| ((with_reducible show wpAny _ _ (call (Value.ref 440) _ _) _ _ _); k_dflt (refine' arith_spec (by k_asm) (by k_asm) (by k_asm) (by k_asm) (by k_asm) (by first | exact rfl | assumption) (by ktr_room) (by ktr_units) (by k_mem) (by k_mem) (by k_mem) (by k_mem) (by k_mem) (by k_mem) (by assumption) (by assumption) (by assumption) (by omega) (by omega) (by assumption) ?_;  k_whole); walk_at "fin"))
theorem toNat_less (n k : Nat) : ((n : Int) - (k : Int)).toNat = n - k := by omega
theorem diff_lag_spec {w : World} {p : Program} {loose : List Str} {mean : ExcName → Option Value} {mg mb : Str → Option Value}
    {dp un : Nat} {gd : Option (List Code)} {cn : Str} {cs : Scope} {a : Addr} {ccd : Value} {cl : List (Str × Addr)} {outer : List Env} {A₀ : Around} {base h₀ : Heap} {L : Addr} {m : Str → Option Value} {news : List (Addr × Obj)} {s : Shared} {Q E : Value → Shared → Prop} {l x d : Addr} {t1 t2 t3 t4 t5 tm : Tok} {vs : List Value} {c : Nat} {ns : List Int} {lag df : Nat} {ta tb : Tok} {nt : Value}
    (B : Below A₀ base outer h₀) (F : Fr h₀ L s.heap m) (X : (frag.heap_1 w.params).In h₀) (N : News h₀ L s.heap news) (T : Top p loose mean mg mb h₀) (hk : cs.kind = .function) (hdp : dp + 40 < recursionLimit) (hun : un + 400 < cLine) (hx : (x, instObj 78 d) ∈ news) (hxd : (d, dictOf (vecD w.params t1 t2 t3 t4 t5 tm l) 5) ∈ news) (hl : (l, listOf vs.toArray c) ∈ news) (hi : IntsAre vs ns) (hb : ns.length < 2 ^ 10) (h1 : 1 ≤ lag) (h2 : lag ≤ 3) (h3 : 1 ≤ df) (h4 : df ≤ 3) (hsm : Small 50 ns)
    (ret : ∀ y e l' (ys : List Value) c' t1 t2 t3 t4 t5 tq h' tk', IntsAre ys (if ns.length ≤ lag * df then [] else difs lag df ns) → (∀ q ∈ news, q.1 < l') → l' < e → e < y → Fr h₀ L h' m →
      News h₀ L h' ((y, instObj 78 e) :: (e, dictOf (vecD w.params t1 t2 t3 t4 t5 tq l') 5) :: (l', listOf ys.toArray c') :: news) → Q (.ref y) { s with heap := h', toks := tk' }) :
    wpAny (model Challenge.pw_ov0077_01 w) (ktrTop dp un gd cn cs L a ccd cl outer) (call (.ref 501) [.ref x, .int lag ta, .int df tb, nt]) Q E s := by
  have kMk : KstMark := kstMark
  have hlen := IntsAre.length hi
  have hmul : lag * df ≤ 9 := Nat.mul_le_mul h2 h4
  k_steps
  · rename ((_ : Int) ≤ _ * _) => hle
    have hle' : ns.length ≤ lag * df := by rw [← hlen]; exact_mod_cast hle
    rename (∀ p, p ∈ news → p.1 < _) => l1
    rename (_ < _ ∧ AllLt _ news) => l9
    exact ret _ _ _ [] _ _ _ _ _ _ _ _ _ (by rw [if_pos hle']; exact .nil) l1 l9.1 (by assumption) (by assumption) (by assumption)
  · rename (¬ (_ : Int) ≤ _ * _) => hle
    have hle' : lag * df < ns.length := by
      have : ¬ (ns.length : Int) ≤ ((lag * df : Nat) : Int) := by rw [← hlen]; simpa using hle
      omega
    rename Fr _ _ _ _ => lF
    rename News _ _ _ _ => lN
    rename IsRange _ _ _ _ _ _ _ _ => rg
    refine range_loop [Str.ofString "v", Str.ofString "n", Str.ofString "later"] (fun i u nx => ∃ (x' d' l' : Addr) (vs' : List Value) (c' : Nat) (t1 t2 t3 t4 t5 tm : Tok), u (Str.ofString "v") = some (.ref x') ∧ (x', instObj 78 d') ∈ nx ∧ (d', dictOf (vecD w.params t1 t2 t3 t4 t5 tm l') 5) ∈ nx ∧ (l', listOf vs'.toArray c') ∈ nx ∧
      IntsAre vs' (difs lag i ns) ∧ (∀ p ∈ news, p ∈ nx) ∧ (0 < i → (∀ q ∈ news, q.1 < l') ∧ l' < d' ∧ d' < x')) rfl rg (small_one (by omega) (by omega) (by omega) (by omega)) (rangeSize_nat _ _) lF lN
      ⟨x, d, l, vs, c, _, _, _, _, _, _, rfl, hx, hxd, hl, hi, fun _ h => h, fun h => absurd h (Nat.lt_irrefl 0)⟩ ?_ ?_
    · rintro i t u nx h tk own hlt ho ⟨x', d', l', vs', c', t1, t2, t3, t4, t5, tm, hu, hx', hd', hl', hi', hnn, -⟩ F1 N1
      have hidf : i < df := by simpa using hlt
      clear hlt
      have F2 := fr_put (n := Str.ofString "v") F1 (by with_unfolding_all exact hu)
      generalize hG : nx ++ own = G at N1
      have hx2 : (x', instObj 78 d') ∈ G := hG ▸ List.mem_append_left _ hx'
      have hd2 : (d', dictOf (vecD w.params t1 t2 t3 t4 t5 tm l') 5) ∈ G := hG ▸ List.mem_append_left _ hd'
      have hl2 : (l', listOf vs'.toArray c') ∈ G := hG ▸ List.mem_append_left _ hl'
      have hlen' := hi'.length
      have hdl := difs_length lag ns i
      have hli : lag * i ≤ lag * df := Nat.mul_le_mul_left _ (by omega)
      have hli2 : lag * i + lag ≤ lag * df := by
        have := Nat.mul_le_mul_left lag (show i + 1 ≤ df by omega)
        rwa [Nat.mul_add, Nat.mul_one] at this
      have hbig : (difs lag i ns).length ≤ ns.length := by omega
      have hge : lag < (difs lag i ns).length := by omega
      clear hdl hli hli2
      clear F1
      refine hidQ fun QQ hQQ => ?_
      k_steps
      rename_i y9 e9 l9 ys9 c9 a9 b9 d9 f9 g9 h9 tk9 hl9 hy9 lt9 lt8 lt7 lt6 F9 N9
      have hi3 : IntsAre vs' (difs lag i ns) := by assumption
      have hla := pick_drop hi3 hl9 hy9
      refine Rest.mk ?_
      (try k_fold)
      k_steps
      rename (IntsAre _ (List.take _ _)) => hI
      have e : ((vs'.length : Int) - (lag : Int)).toNat = (difs lag i ns).length - lag := by rw [hlen']; exact toNat_less _ _
      rw [e] at hI
      clear e
      have hdl2 : ((difs lag i ns).drop lag).length + lag = (difs lag i ns).length := by rw [List.length_drop]; omega
      have hn2 : ((difs lag i ns).take ((difs lag i ns).length - lag)).length = ((difs lag i ns).drop lag).length := by rw [List.length_take, List.length_drop, Nat.min_eq_left (Nat.sub_le _ _)]
      have hS := difs_small400 (lag := lag) hsm hidf h4
      have hop := small_sub (xs := (difs lag i ns).drop lag) (ys := (difs lag i ns).take ((difs lag i ns).length - lag)) (fun x hx => hS x (List.mem_of_mem_drop hx)) (fun x hx => hS x (List.mem_of_mem_take hx)) (by omega)
      refine Rest.mk ?_
      (try k_fold)
      k_steps
      refine hidOf hQQ ?_
      k_steps
      rename_i xa da la ysa ca qa qb qc qd qe tqa ha tka hya lta ltb ltc hb Fb Nb
      have hGm : ∀ p ∈ G, p.1 < la := fun p hp => lta p (.tail _ (.tail _ (.tail _ (.tail _ (.tail _ (.tail _ (.tail _ hp)))))))
      have hown : ∀ p ∈ own, p ∈ G := fun p hp => hG ▸ List.mem_append_right _ hp
      have hnG : ∀ p ∈ news, p ∈ G := fun p hp => hG ▸ List.mem_append_left _ (hnn p hp)
      have hoff : OwnOff own (((xa, instObj 78 da) :: (da, dictOf (vecD w.params qa qb qc qd qe tqa la) 5) :: (la, listOf ysa.toArray ca) :: news).map (·.1)) := by
        intro p hp b hb
        have h1 := hGm p (hown p hp)
        simp only [List.map_cons, List.mem_cons] at hb
        rcases hb with rfl | rfl | rfl | hb
        · exact Nat.ne_of_lt (Nat.lt_trans h1 (Nat.lt_trans ltb ltc))
        · exact Nat.ne_of_lt (Nat.lt_trans h1 ltb)
        · exact Nat.ne_of_lt h1
        · obtain ⟨q, hq, rfl⟩ := List.mem_map.mp hb
          exact ho p hp _ (List.mem_map.mpr ⟨q, hnn q hq, rfl⟩)
      refine InvEndG.intro Fb Nb ⟨by tb_rel, xa, da, la, ysa, ca, _, _, _, _, _, _, by with_unfolding_all rfl, .head _, .tail _ (.head _), .tail _ (.tail _ (.head _)), hya, fun p hp => .tail _ (.tail _ (.tail _ hp)), fun _ => ⟨fun q hq => hGm q (hnG q hq), ltb, ltc⟩⟩ hoff (fun p hp => ?_) (fun p hp => ?_)
      · rcases List.mem_cons.mp hp with rfl | hp
        · exact .head _
        rcases List.mem_cons.mp hp with rfl | hp
        · exact .tail _ (.head _)
        rcases List.mem_cons.mp hp with rfl | hp
        · exact .tail _ (.tail _ (.head _))
        · exact .tail _ (.tail _ (.tail _ (.tail _ (.tail _ (.tail _ (.tail _ (.tail _ (.tail _ (.tail _ (hnG p hp))))))))))
      · exact .tail _ (.tail _ (.tail _ (.tail _ (.tail _ (.tail _ (.tail _ (.tail _ (.tail _ (.tail _ (hown p hp))))))))))
    · rintro u nx h tk ⟨x', d', l', vs', c', t1, t2, t3, t4, t5, tm, hu, hx', hd', hl', hi', hnn, hlt⟩ F1 N1
      have F2 := fr_put (n := Str.ofString "v") F1 (by with_unfolding_all exact hu)
      clear F1
      have hlt := hlt (by omega)
      k_steps
      have hdf : ((df : Int) - 0).toNat = df := by omega
      rw [hdf] at hi'
      exact ret _ _ _ _ _ _ _ _ _ _ _ _ _ (by rw [if_neg (by omega)]; exact hi') hlt.1 hlt.2.1 hlt.2.2 (by assumption) (fun p hp => (by assumption : News h₀ L _ nx) p (by
        rcases List.mem_cons.mp hp with rfl | hp
        · exact hx'
        rcases List.mem_cons.mp hp with rfl | hp
        · exact hd'
        rcases List.mem_cons.mp hp with rfl | hp
        · exact hl'
        · exact hnn p hp))
end
section
local macro_rules | `(tactic| walk_at "call ref") => `(tactic| ((with_reducible show wpAny _ _ (call (Value.ref 501) _ _) _ _ _); k_dflt (refine' diff_lag_spec (by k_asm) (by k_asm) (by k_asm) (by k_asm) (by k_asm) (by first | exact rfl | assumption) (by ktr_room) (by ktr_units) (by k_mem) (by k_mem) (by k_mem) (by assumption) (by omega) (by omega) (by omega) (by omega) (by omega) (by assumption) ?_;  k_whole); intro _ _ _ _ _ _ _ _ _ _ _ _ _ _ lt9 lt8 lt7; intros; (try dsimp only); (try k_lt lt9); (try k_lt2 lt8); (try k_lt2 lt7); (try k_fold)))
theorem told_good {w : World} {p : Program} {loose : List Str} {mean : ExcName → Option Value} {mg mb : Str → Option Value}
    {dp un : Nat} {gd : Option (List Code)} {cn : Str} {cs : Scope} {a : Addr} {ccd : Value} {cl : List (Str × Addr)} {outer : List Env} {A₀ : Around} {base h₀ : Heap} {L : Addr} {m : Str → Option Value} {news : List (Addr × Obj)} {s : Shared} {Q E : Value → Shared → Prop} {l : Addr} {vs : List Value} {c : Nat} {ns : List Int} {lag df : Nat} {ta tb : Tok}
    (B : Below A₀ base outer h₀) (F : Fr h₀ L s.heap m) (X : (frag.heap_1 w.params).In h₀) (N : News h₀ L s.heap news) (T : Top p loose mean mg mb h₀) (hk : cs.kind = .function) (hdp : dp + 60 < recursionLimit) (hun : un + 600 < cLine) (hl : (l, listOf vs.toArray c) ∈ news) (hi : IntsAre vs ns) (hb : ns.length < 2 ^ 10) (h1 : 1 ≤ lag) (h2 : lag ≤ 3) (h3 : 1 ≤ df) (h4 : df ≤ 3) (hsm : Small 50 ns)
    (ret : ∀ l' ys c' h' tk', IntsAre ys (if ns.length ≤ lag * df then [] else difs lag df ns) → (∀ q ∈ news, q.1 < l') → Fr h₀ L h' m → News h₀ L h' ((l', listOf ys.toArray c') :: news) → Q (.ref l') { s with heap := h', toks := tk' }) :
    wpAny (model Challenge.pw_ov0077_01 w) (ktrTop dp un gd cn cs L a ccd cl outer) (call (.ref 529) [.ref l, .int lag ta, .int df tb]) Q E s := by
  have kMk : KstMark := kstMark
  k_steps
  rename (_ < _ ∧ _ < _ ∧ _ < _ ∧ AllLt _ news) => lt9
  exact ret _ _ _ _ _ (by assumption) (kst_ltOf lt9.2.2.2) (by assumption) (fun p hp => (by assumption : News h₀ L _ _) p (by
    rcases List.mem_cons.mp hp with rfl | hp
    · exact .tail _ (.tail _ (.head _))
    · exact .tail _ (.tail _ (.tail _ (.tail _ (.tail _ (.tail _ hp)))))))
theorem Upd.self {d : Addr} {o o' o'' : Obj} {l l' l'' : List (Addr × Obj)} (h : Upd d o o' l l') (h2 : Upd d o o'' l l'') (e : o = o'') : l'' = l := by
  subst e
  induction h2 generalizing l' with
  | head _ => rfl
  | tail hne _ ih =>
    cases h with
    | head _ => exact absurd rfl hne
    | tail _ h => rw [ih h]
local macro_rules | `(tactic| k_upd) => `(tactic| ((rename (∀ _ _, Upd _ _ _ _ _) => hU); exact hU _ _))
theorem pebble_spec {w : World} {p : Program} {loose : List Str} {mean : ExcName → Option Value} {mg mb : Str → Option Value}
    {dp un : Nat} {gd : Option (List Code)} {cn : Str} {cs : Scope} {a : Addr} {ccd : Value} {cl : List (Str × Addr)} {outer : List Env} {A₀ : Around} {base h₀ : Heap} {L : Addr} {m : Str → Option Value} {news : List (Addr × Obj)} {s : Shared} {Q E : Value → Shared → Prop} {l : Addr} {vs : List Value} {ns : List Int} {c : Nat} {most : Int} {tm : Tok} {led : List Value → Nat → List (Addr × Obj)}
    (B : Below A₀ base outer h₀) (F : Fr h₀ L s.heap m) (X : (frag.heap_1 w.params).In h₀) (N : News h₀ L s.heap news) (T : Top p loose mean mg mb h₀) (hk : cs.kind = .function) (hdp : dp + 1 < recursionLimit) (hun : un + 8 < cLine) (U : ∀ vs' c', Upd l (listOf vs.toArray c) (listOf vs'.toArray c') news (led vs' c')) (hi : IntsAre vs ns) (hfit : ns.length < 2 ^ 20) (hm : 0 < most) (hm2 : most < 1000)
    (ret : ∀ (k : Int) t vs' ns' c' h' tk', 0 ≤ k → k < most → IntsAre vs' ns' → ns'.length ≤ ns.length → Fr h₀ L h' m → News h₀ L h' (led vs' c') → Q (.int k t) { s with heap := h', toks := tk' }) :
    wpAny (model Challenge.pw_ov0077_01 w) (ktrTop dp un gd cn cs L a ccd cl outer) (call (.ref 515) [.ref l, .int most tm]) Q E s := by
  have kMk : KstMark := kstMark
  have hlen := IntsAre.length hi
  have hself := Upd.self (U [] 0) (U vs c) rfl
  obtain ⟨pre, post, e1, _, n1, n2⟩ := (U [] 0).split
  have hmem : (l, listOf vs.toArray c) ∈ news := by rw [e1]; exact List.mem_append_right _ (.head _)
  k_steps
  · exact ret _ _ _ _ _ _ _ (by omega) (by omega) hi (by omega) (by assumption) (by rw [hself]; assumption)
  · exact ret _ _ _ _ _ _ _ (Int.fmod_nonneg_of_pos _ hm) (Int.fmod_lt_of_pos _ hm) (by assumption) (by rw [List.length_dropLast]; omega) (by assumption) (by assumption)
end
section
theorem name_lt2 {a b : Addr} {news : List (Addr × Obj)} {P : Prop} (_ : a < b ∧ AllLt b news) (k : ∀ b' : Addr, b' = b → P) : P := k b rfl
local macro_rules | `(tactic| walk_at "subscriptTail") => `(tactic| (k_here; (with_reducible show wpAny _ _ (subscriptTail _ _ (Value.ref _) (Value.int _ _)) _ _ _); k_dflt (refine item_gen (by k_asm) (by k_mem) (by omega) (by omega) (by omega) ?_); intro v9 hv9))
section
variable {prog : Program} {w : World} {A : Around} {E : Value → Shared → Prop} {s : Shared} {h₀ : Heap} {L : Addr} {m : Str → Option Value} {news news' : List (Addr × Obj)}
theorem get_last {l : Addr} {vs : List Value} {ns : List Int} {c : Nat} {u : Tok} {Q : Value → Shared → Prop} (N : News h₀ L s.heap news) (hm : (l, listOf vs.toArray c) ∈ news) (hi : IntsAre vs ns) (h1 : 0 < vs.length) (hb : vs.length < 2 ^ 20)
    (h : ∀ t, Q (.int (ns.getLastD 0) t) s) : wpAny (model prog w) A (getItem (.ref l) (.int (-1) u)) Q E s := by
  have hl : s.heap.IsList l vs.toArray := ⟨_, (N _ hm).1, rfl, c, rfl⟩
  have hsz : vs.toArray.size = vs.length := by simp
  have hk : ((-1 : Int) + (vs.toArray.size : Int)).toNat = vs.length - 1 := by rw [hsz]; omega
  have hlt : vs.length - 1 < vs.length := by omega
  refine wpAny_getItem_list_neg hl (by omega) (by rw [hsz]; omega) (by omega) (x := vs[vs.length - 1]) (by rw [hk]; simp [hlt]) ?_
  obtain ⟨k, t, hv, hn⟩ := IntsAre.at hi (vs.length - 1) (vs[vs.length - 1]) (by simp [hlt])
  rw [hv]
  have e : ns.getLastD 0 = k := by
    rw [hi.length] at hn
    rw [List.getLastD_eq_getLast?, List.getLast?_eq_getElem?, hn]; rfl
  rw [← e]
  exact h t
theorem set_last {l : Addr} {vs : List Value} {c : Nat} {u : Tok} {v : Value} {Q : Unit → Shared → Prop} (F : Fr h₀ L s.heap m) (N : News h₀ L s.heap news) (h1 : 0 < vs.length) (U : Upd l (listOf vs.toArray c) (listOf (vs.dropLast ++ [v]).toArray c) news news')
    (h : ∀ h', Fr h₀ L h' m → News h₀ L h' news' → Q () { s with heap := h' }) : wpAny (model prog w) A (setItem (.ref l) (.int (-1) u) v) Q E s := by
  refine ki_setNeg (j := vs.length - 1) F N (by decide) (by decide) ?_ ?_ U h
  · have := PySem.seqIndex_neg (k := -1) (n := vs.toArray.size) (by decide) (by rw [List.size_toArray]; omega)
    rw [this, List.size_toArray]
    congr 1
    omega
  · have key : ∀ (vs : List Value), 0 < vs.length → ki_setL vs (vs.length - 1) v = some (vs.dropLast ++ [v]) := by
      intro vs
      induction vs with
      | nil => intro h; simp at h
      | cons a r ih =>
        intro _
        cases r with
        | nil => rfl
        | cons b r =>
          have := ih (by simp)
          simp only [List.length_cons, Nat.add_sub_cancel] at this ⊢
          unfold ki_setL
          rw [this]
          rfl
    exact key vs h1
end
local macro_rules | `(tactic| walk_at "getItem ref int") => `(tactic| (k_here; (with_reducible show wpAny _ _ (PySem.getItem (Value.ref _) (Value.int _ _)) _ _ _); k_dflt (refine' get_last ?k1 ?k2 ?k3 ?k4 ?k5 ?_; (case k1 => k_asm); (case k2 => k_mem); (case k3 => assumption); (case k4 => omega); (case k5 => omega); k_whole); intro t9))
local macro_rules | `(tactic| walk_at "setItem ref int") => `(tactic| (k_here; (with_reducible show wpAny _ _ (PySem.setItem (Value.ref _) (Value.int _ _) _) _ _ _); k_dflt (refine' set_last ?k1 ?k2 ?k3 ?k4 ?_; (case k1 => k_asm); (case k2 => k_asm); (case k4 => k_upd); (case k3 => omega); k_whole); intro h9 F9 N9))
/-- two items are one run's: neither NA, and alike -/
def sameB (a b : Option Int) : Bool := a.isSome && a == b
/-- the runs' lengths and starts of the first n items -/
noncomputable def runs (os : List (Option Int)) : Nat → List Int × List Int
  | 0 => ([], [])
  | i + 1 => if (0 < i ∧ sameB (os.getD (i - 1) Option.none) (os.getD i Option.none) = true) then ((runs os i).1.dropLast ++ [(runs os i).1.getLastD 0 + 1], (runs os i).2) else ((runs os i).1 ++ [1], (runs os i).2 ++ [(i : Int)])
theorem runs_ne (os : List (Option Int)) (i : Nat) : (runs os (i + 1)).1 ≠ [] := by
  unfold runs
  split <;> simp
theorem runs_len (os : List (Option Int)) : ∀ i, (runs os i).1.length ≤ i ∧ (runs os i).2.length = (runs os i).1.length
  | 0 => by simp [runs]
  | i + 1 => by
    have ih := runs_len os i
    unfold runs
    split
    · rename_i h
      obtain ⟨j, rfl⟩ : ∃ j, i = j + 1 := ⟨i - 1, by omega⟩
      have := List.length_pos_iff.mpr (runs_ne os j)
      simp only [List.length_append, List.length_dropLast, List.length_cons, List.length_nil]
      omega
    · simp only [List.length_append, List.length_cons, List.length_nil]
      omega
theorem ItemsAre.one {vs : List Value} {os : List (Option Int)} (h : ItemsAre vs os) {i : Nat} {v : Value} (e : vs[i]? = some v) : ItemsAre [v] [os.getD i Option.none] := by
  rcases h.at e with ⟨k, t, e1, rfl⟩ | ⟨e1, rfl⟩
  · rw [List.getD, e1]; exact .int k t .nil
  · rw [List.getD, e1]; exact .none .nil
theorem IntsAre.dropLast' {vs : List Value} {ns : List Int} (h : IntsAre vs ns) : IntsAre vs.dropLast ns.dropLast := by
  induction h with
  | nil => exact .nil
  | cons k t h ih =>
    cases h with
    | nil => exact .nil
    | cons k' t' h => exact .cons k t ih
theorem same_item_spec {w : World} {p : Program} {loose : List Str} {mean : ExcName → Option Value} {mg mb : Str → Option Value}
    {dp un : Nat} {gd : Option (List Code)} {cn : Str} {cs : Scope} {a : Addr} {ccd : Value} {cl : List (Str × Addr)} {outer : List Env} {A₀ : Around} {base h₀ : Heap} {L : Addr} {m : Str → Option Value} {news : List (Addr × Obj)} {s : Shared} {Q E : Value → Shared → Prop} {b1 b2 : Option Int} {v1 v2 : Value} {tm : Tok}
    (B : Below A₀ base outer h₀) (F : Fr h₀ L s.heap m) (X : (frag.heap_1 w.params).In h₀) (N : News h₀ L s.heap news) (T : Top p loose mean mg mb h₀) (hk : cs.kind = .function) (hdp : dp + 4 < recursionLimit) (hun : un + 30 < cLine) (i1 : ItemsAre [v1] [b1]) (i2 : ItemsAre [v2] [b2])
    (ret : ∀ h' tk', Fr h₀ L h' m → News h₀ L h' news → Q (.bool (sameB b1 b2)) { s with heap := h', toks := tk' }) :
    wpAny (model Challenge.pw_ov0077_01 w) (ktrTop dp un gd cn cs L a ccd cl outer) (call (.ref 480) [.str (Str.ofString "integer") tm, v1, v2]) Q E s := by
  have kMk : KstMark := kstMark
  rcases i1 with _ | ⟨i, t⟩ | _ <;> rcases i2 with _ | ⟨j, u⟩ | _
  all_goals k_steps
  · rw [show (i == j) = sameB (some i) (some j) from rfl]
    exact ret _ _ (by assumption) (by assumption)
  all_goals exact ret _ _ (by assumption) (by assumption)
local macro_rules | `(tactic| walk_at "call ref") => `(tactic| ((with_reducible show wpAny _ _ (call (Value.ref 480) _ _) _ _ _); k_dflt (refine' same_item_spec (by k_asm) (by k_asm) (by k_asm) (by k_asm) (by k_asm) (by first | exact rfl | assumption) (by ktr_room) (by ktr_units) (by exact ItemsAre.one (by assumption) (by assumption)) (by exact ItemsAre.one (by assumption) (by assumption)) ?_;  k_whole); walk_at "fin"))
theorem rle_spec {w : World} {p : Program} {loose : List Str} {mean : ExcName → Option Value} {mg mb : Str → Option Value}
    {dp un : Nat} {gd : Option (List Code)} {cn : Str} {cs : Scope} {a : Addr} {ccd : Value} {cl : List (Str × Addr)} {outer : List Env} {A₀ : Around} {base h₀ : Heap} {L : Addr} {m : Str → Option Value} {news : List (Addr × Obj)} {s : Shared} {Q E : Value → Shared → Prop} {l x d : Addr} {t1 t2 t3 t4 t5 tm : Tok} {vs : List Value} {c : Nat} {os : List (Option Int)}
    (B : Below A₀ base outer h₀) (F : Fr h₀ L s.heap m) (X : (frag.heap_1 w.params).In h₀) (N : News h₀ L s.heap news) (T : Top p loose mean mg mb h₀) (hk : cs.kind = .function) (hdp : dp + 8 < recursionLimit) (hun : un + 80 < cLine) (hx : (x, instObj 78 d) ∈ news) (hxd : (d, dictOf (vecD w.params t1 t2 t3 t4 t5 tm l) 5) ∈ news) (hl : (l, listOf vs.toArray c) ∈ news) (hi : ItemsAre vs os) (hb : os.length < 2 ^ 10)
    (ret : ∀ tp la lb n (ys zs : List Value) c1 c2 h' tk', IntsAre ys (runs os os.length).1 → IntsAre zs (runs os os.length).2 → (∀ q ∈ news, q.1 < la) → la < lb → lb < tp → Fr h₀ L h' m →
      News h₀ L h' ((tp, tupObj #[.ref la, .ref lb] n) :: (lb, listOf zs.toArray c2) :: (la, listOf ys.toArray c1) :: news) → Q (.ref tp) { s with heap := h', toks := tk' }) :
    wpAny (model Challenge.pw_ov0077_01 w) (ktrTop dp un gd cn cs L a ccd cl outer) (call (.ref 487) [.ref x]) Q E s := by
  have kMk : KstMark := kstMark
  have hlen := hi.length
  k_steps
  rename Fr _ _ _ _ => lF
  rename News _ _ _ _ => lN
  rename IsRange _ _ _ _ _ _ _ _ => rg
  rename (∀ p, p ∈ news → p.1 < _) => l1
  rename (_ < _ ∧ AllLt _ news) => l2
  refine name_lt l1 fun la el => ?_
  subst el
  refine name_lt2 l2 fun lb el => ?_
  subst el
  refine range_loop [] (fun i _ nx => ∃ (ys zs : List Value) (c1 c2 : Nat), nx = (lb, listOf zs.toArray c2) :: (la, listOf ys.toArray c1) :: news ∧ IntsAre ys (runs os i).1 ∧ IntsAre zs (runs os i).2) rfl rg (small_one (by omega) (by omega) (by omega) (by omega)) (rangeSize_nat _ _) lF lN ⟨[], [], 0, 0, rfl, .nil, .nil⟩ ?_ ?_
  · rintro i t u nx h tk own hlt ho ⟨ys, zs, c1, c2, rfl, hy, hz⟩ F1 N1
    have hil : i < vs.length := by omega
    simp only [List.cons_append] at N1
    have hyl : ys.length ≤ i ∧ zs.length ≤ i := by rw [hy.length, hz.length]; have := runs_len os i; omega
    have hy0 : 0 < i → 0 < ys.length := fun h => by
      obtain ⟨j, rfl⟩ : ∃ j, i = j + 1 := ⟨i - 1, by omega⟩
      rw [hy.length]; exact List.length_pos_iff.mpr (runs_ne os j)
    have e1 : ((0 : Int) + (i : Int) - 1).toNat = i - 1 := by omega
    have e2 : ((0 : Int) + (i : Int)).toNat = i := by omega
    have ei : (0 : Int) + (i : Int) = (i : Int) := by omega
    refine hidQ fun QQ hQQ => ?_
    k_steps
    all_goals (refine hidOf hQQ ?_; k_steps)
    · rename (sameB _ _ = true) => hs
      rename ((0 : Int) < _) => h0
      rename News _ _ _ _ => lN2
      rw [e1, e2] at hs
      have hr : runs os (i + 1) = ((runs os i).1.dropLast ++ [(runs os i).1.getLastD 0 + 1], (runs os i).2) := by
        conv => lhs; unfold runs
        rw [if_pos ⟨by omega, hs⟩]
      refine end2 lN2 (by assumption) ⟨by tb_rel, _, _, _, _, rfl, ?_, ?_⟩ ho
      · rw [hr]; exact IntsAre.append (Mine.IntsAre.dropLast' hy) (.cons _ _ .nil)
      · rw [hr]; exact hz
    · rename (sameB _ _ = false) => hs
      rename News _ _ _ _ => lN2
      (try simp only [List.push_toArray] at lN2)
      rw [e1, e2] at hs
      have hr : runs os (i + 1) = ((runs os i).1 ++ [1], (runs os i).2 ++ [(0 + (i : Int))]) := by
        rw [ei]; conv => lhs; unfold runs
        rw [if_neg (fun h => by rw [hs] at h; exact absurd h.2 (by decide))]
      refine end2 lN2 (by assumption) ⟨by tb_rel, _, _, _, _, rfl, ?_, ?_⟩ ho
      · rw [hr]; exact IntsAre.append hy (.cons _ _ .nil)
      · rw [hr]; exact IntsAre.append hz (.cons _ _ .nil)
    · rename (¬ (0 : Int) < _) => hs
      rename News _ _ _ _ => lN2
      (try simp only [List.push_toArray] at lN2)
      have hr : runs os (i + 1) = ((runs os i).1 ++ [1], (runs os i).2 ++ [(0 + (i : Int))]) := by
        rw [ei]; conv => lhs; unfold runs
        rw [if_neg (fun h => by have := h.1; omega)]
      refine end2 lN2 (by assumption) ⟨by tb_rel, _, _, _, _, rfl, ?_, ?_⟩ ho
      · rw [hr]; exact IntsAre.append hy (.cons _ _ .nil)
      · rw [hr]; exact IntsAre.append hz (.cons _ _ .nil)
  · rintro u nx h tk ⟨ys, zs, c1, c2, rfl, hy, hz⟩ F1 N1
    k_steps
    have e : ((vs.length : Int) - 0).toNat = os.length := by omega
    rw [e] at hy hz
    rename (_ < _ ∧ _ < _ ∧ AllLt _ news) => l9
    exact ret _ _ _ _ _ _ _ _ _ _ hy hz l1 l2.1 l9.1 (by assumption) (by assumption)
end
section
theorem Upd.rel {d : Addr} {o o1 o2 : Obj} {l l1 l2 : List (Addr × Obj)} (h : Upd d o o1 l l1) (h2 : Upd d o o2 l l2) : Upd d o1 o2 l1 l2 := by
  induction h generalizing l2 with
  | head hr =>
    cases h2 with
    | head _ => exact .head hr
    | tail hne _ => exact absurd rfl hne
  | tail hne _ ih =>
    cases h2 with
    | head _ => exact absurd rfl hne
    | tail _ h2 => exact .tail hne (ih h2)
theorem Upd.app {d : Addr} {o o' : Obj} {l l' own : List (Addr × Obj)} (h : Upd d o o' l l') (ho : ∀ p ∈ own, p.1 ≠ d) : Upd d o o' (l ++ own) (l' ++ own) := by
  induction h with
  | head hr => exact .head fun p hp => (List.mem_append.mp hp).elim (hr p) (ho p)
  | tail hne _ ih => exact .tail hne ih
theorem Upd.keys {d : Addr} {o o' : Obj} {l l' : List (Addr × Obj)} (h : Upd d o o' l l') : l'.map (·.1) = l.map (·.1) := by
  induction h with
  | head hr => rfl
  | tail hne _ ih => simp [ih]
theorem Upd.mem {d : Addr} {o o' : Obj} {l l' : List (Addr × Obj)} (h : Upd d o o' l l') : (d, o) ∈ l := by
  induction h with
  | head hr => exact .head _
  | tail hne _ ih => exact .tail _ ih
theorem lt_keys {a : Addr} {l l' : List (Addr × Obj)} (h : l'.map (·.1) = l.map (·.1)) (k : ∀ p ∈ l, p.1 < a) : ∀ p ∈ l', p.1 < a := by
  intro p hp
  have : p.1 ∈ l'.map (·.1) := List.mem_map.mpr ⟨p, hp, rfl⟩
  rw [h] at this
  obtain ⟨q, hq, e⟩ := List.mem_map.mp this
  rw [← e]; exact k q hq
/-- a draw's bounds, hidden from the walk's own splitting -/
def Within (k m : Int) : Prop := 0 ≤ k ∧ k < m
theorem pebble_hid {w : World} {p : Program} {loose : List Str} {mean : ExcName → Option Value} {mg mb : Str → Option Value}
    {dp un : Nat} {gd : Option (List Code)} {cn : Str} {cs : Scope} {a : Addr} {ccd : Value} {cl : List (Str × Addr)} {outer : List Env} {A₀ : Around} {base h₀ : Heap} {L : Addr} {m : Str → Option Value} {news : List (Addr × Obj)} {s : Shared} {Q E : Value → Shared → Prop} {l : Addr} {vs : List Value} {ns : List Int} {c : Nat} {most : Int} {tm : Tok} {led : List Value → Nat → List (Addr × Obj)}
    (B : Below A₀ base outer h₀) (F : Fr h₀ L s.heap m) (X : (frag.heap_1 w.params).In h₀) (N : News h₀ L s.heap news) (T : Top p loose mean mg mb h₀) (hk : cs.kind = .function) (hdp : dp + 1 < recursionLimit) (hun : un + 8 < cLine) (U : ∀ vs' c', Upd l (listOf vs.toArray c) (listOf vs'.toArray c') news (led vs' c')) (hi : IntsAre vs ns) (hfit : ns.length < 2 ^ 20) (hm : 0 < most) (hm2 : most < 1000)
    (ret : ∀ (k : Int) t vs' ns' c' h' tk', Within k most → IntsAre vs' ns' → ns'.length ≤ ns.length → Fr h₀ L h' m → News h₀ L h' (led vs' c') → Q (.int k t) { s with heap := h', toks := tk' }) :
    wpAny (model Challenge.pw_ov0077_01 w) (ktrTop dp un gd cn cs L a ccd cl outer) (call (.ref 515) [.ref l, .int most tm]) Q E s :=
  pebble_spec B F X N T hk hdp hun U hi hfit hm hm2 fun k t vs' ns' c' h' tk' h0 h1 h2 h3 F' N' => ret k t vs' ns' c' h' tk' ⟨h0, h1⟩ h2 h3 F' N'
theorem ne_below {a l : Addr} {o : Obj} {news : List (Addr × Obj)} (h : ∀ p ∈ news, p.1 < a) (m : (l, o) ∈ news) : a ≠ l := Nat.ne_of_gt (h _ m)
local macro_rules | `(tactic| walk_at "call ref") => `(tactic| ((with_reducible show wpAny _ _ (call (Value.ref 515) _ _) _ _ _); k_dflt (refine' pebble_hid ?uB ?uF ?uX ?uN ?uT ?uK ?ud ?uu ?uU ?ui ?ufit ?um ?um2 ?_; (case uB => k_asm); (case uF => k_asm); (case uX => k_asm); (case uN => k_asm); (case uT => k_asm); (case uK => first | exact rfl | assumption); (case ud => ktr_room); (case uu => ktr_units); (case uU => (first | assumption | (rename (∀ _ _, Upd _ _ _ _ _) => hU; exact fun v8 c8 => Upd.tail (ne_below (by assumption) (by assumption)) (hU v8 c8)) | (rename (∀ _ _ _ _, Upd _ _ _ _ _) => hU; exact fun v8 c8 => Upd.tail (ne_below (by assumption) (by assumption)) (hU _ _ v8 c8)))); (case ui => assumption); (case ufit => omega); (case um => omega); (case um2 => omega); k_whole); walk_at "fin"))
theorem stay_loop {x n : Str} {st st2 : List Str} {m₀ m : Str → Option Value} {f : Str → Option Value} (hn : n = x ∨ st.contains n = true) (hs : st2.all (fun z => st.contains z) = true) (h : Stay x st m₀ m) :
    Stay x st m₀ (fun y => if y = n then f y else if st2.contains y = true then f y else m y) := by
  intro z h1 h2
  have hz : z ≠ n := by
    rintro rfl
    rcases hn with e | e
    · exact h1 e
    · rw [h2] at e; cases e
  have hc : st2.contains z = false := by
    cases h3 : st2.contains z with
    | false => rfl
    | true => rw [List.all_eq_true.mp hs z (List.contains_iff_mem.mp h3)] at h2; cases h2
  simp only [if_neg hz, hc, Bool.false_eq_true, if_false]
  exact h z h1 h2
local macro_rules | `(tactic| tb_rel) => `(tactic| (repeat (first | exact stay0 | (refine stay_loop (by decide) (by decide) ?_) | (refine stay_put (by decide) ?_))))
theorem name_within {k m : Int} {P : Prop} (_ : Within k m) (f : ∀ k', k' = k → P) : P := f k rfl
theorem items_put {ys : List Value} {os : List (Option Int)} {j : Nat} {v : Value} {o : Option Int} (h : ItemsAre ys (os ++ List.replicate j o)) (h1 : ItemsAre [v] [o]) : ItemsAre (ys ++ [v]) (os ++ List.replicate (j + 1) o) := by
  rw [List.replicate_succ', ← List.append_assoc]
  exact ItemsAre.append h h1
theorem items_all {os : List (Option Int)} {o : Option Int} {n : Nat} {R : Option Int → Prop} (h : ∀ x ∈ os, R x) (h1 : R o) : ∀ x ∈ os ++ List.replicate n o, R x := by
  intro x hx
  rcases List.mem_append.mp hx with hx | hx
  · exact h x hx
  · rw [(List.mem_replicate.mp hx).2]; exact h1
/-- what an item is: NA, or from 0 to 4; no NA where b is false -/
def Item (b : Bool) : Option Int → Prop
  | some k => 0 ≤ k ∧ k < 5
  | Option.none => b = true
theorem items_spec {w : World} {p : Program} {loose : List Str} {mean : ExcName → Option Value} {mg mb : Str → Option Value}
    {dp un : Nat} {gd : Option (List Code)} {cn : Str} {cs : Scope} {a : Addr} {ccd : Value} {cl : List (Str × Addr)} {outer : List Env} {A₀ : Around} {base h₀ : Heap} {L : Addr} {m : Str → Option Value} {news : List (Addr × Obj)} {s : Shared} {Q E : Value → Shared → Prop} {l : Addr} {vs : List Value} {ns : List Int} {c : Nat} {b : Bool} {led : List Value → Nat → List (Addr × Obj)}
    (B : Below A₀ base outer h₀) (F : Fr h₀ L s.heap m) (X : (frag.heap_1 w.params).In h₀) (N : News h₀ L s.heap news) (T : Top p loose mean mg mb h₀) (hk : cs.kind = .function) (hdp : dp + 3 < recursionLimit) (hun : un + 30 < cLine) (U : ∀ vs' c', Upd l (listOf vs.toArray c) (listOf vs'.toArray c') news (led vs' c')) (hi : IntsAre vs ns) (hfit : ns.length < 2 ^ 10)
    (ret : ∀ l' ys os c1 vs' ns' c' h' tk', ItemsAre ys os → os.length ≤ 9 → (∀ o ∈ os, Item b o) → (∀ q ∈ news, q.1 < l') → IntsAre vs' ns' → ns'.length ≤ ns.length → Fr h₀ L h' m → News h₀ L h' ((l', listOf ys.toArray c1) :: led vs' c') → Q (.ref l') { s with heap := h', toks := tk' }) :
    wpAny (model Challenge.pw_ov0077_01 w) (ktrTop dp un gd cn cs L a ccd cl outer) (call (.ref 522) [.ref l, .bool b]) Q E s := by
  have kMk : KstMark := kstMark
  have hmem := Upd.mem (U [] 0)
  have hUU : ∀ vs1 c1 vs2 c2, Upd l (listOf vs1.toArray c1) (listOf vs2.toArray c2) (led vs1 c1) (led vs2 c2) := fun vs1 c1 vs2 c2 => Upd.rel (U vs1 c1) (U vs2 c2)
  k_steps
  rename_i k9 t9 vs9 ns9 c9 h9 tk9 wi9 hi9 hl9 Fx Nx hh tt t1 t2 t3 rg lF lN gg
  rename (∀ p, p ∈ news → p.1 < _) => l1
  refine name_lt l1 fun l' el => ?_
  subst el
  have hsz : ((k9 : Int) - 0).toNat ≤ 3 := by have := wi9.2; omega
  refine range_loop [Str.ofString "item", Str.ofString "again"] (fun i _ nx => ∃ (ys : List Value) (os : List (Option Int)) (c1 : Nat) (vs1 : List Value) (ns1 : List Int) (c2 : Nat), nx = (l', listOf ys.toArray c1) :: led vs1 c2 ∧ ItemsAre ys os ∧ os.length ≤ 3 * i ∧ (∀ o ∈ os, Item b o) ∧ IntsAre vs1 ns1 ∧ ns1.length ≤ ns.length)
    rfl rg (small_one (by have := wi9.1; omega) (by have := wi9.2; omega) (by have := wi9.1; omega) (by have := wi9.2; omega)) (rangeSize_nat _ _) lF lN ⟨[], [], 0, vs9, ns9, c9, rfl, .nil, by simp, by simp, hi9, hl9⟩ ?_ ?_
  · clear lF lN Fx Nx
    rintro i t u nx h tk own hlt ho ⟨ys, os, c1, vs1, ns1, c2, rfl, hy, hyl, hyk, hv, hvl⟩ F1 N1
    simp only [List.cons_append] at N1
    have hoff : ∀ p ∈ own, p.1 ≠ l := fun p hp => ho p hp l (List.mem_map.mpr ⟨_, .tail _ (Upd.mem (hUU vs1 c2 [] 0)), rfl⟩)
    have hUo : ∀ v1 k1 v2 k2, Upd l (listOf v1.toArray k1) (listOf v2.toArray k2) (led v1 k1 ++ own) (led v2 k2 ++ own) := fun v1 k1 v2 k2 => Upd.app (hUU v1 k1 v2 k2) hoff
    refine hidQ fun QQ hQQ => ?_
    cases b
    all_goals k_steps
    · rename_i kb tb vb nb cb hb tkb wb ib lb F' N' h' tk t1 t2 t3 rg2 lF lN gg
      rename Within _ 5 => wa
      rename (List.length _ ≤ List.length ns1) => la
      refine name_within wa fun ka e => ?_
      subst e
      clear F' N' F1 N1
      have hn2 : ((1 + kb : Int) - 0).toNat ≤ 3 := by have := wb.2; omega
      refine range_loop [] (fun j _ nx => ∃ (ys2 : List Value) (c5 : Nat), nx = (l', listOf ys2.toArray c5) :: (led vb cb ++ own) ∧ ItemsAre ys2 (os ++ List.replicate j (some ka)))
        rfl rg2 (small_one (by have := wb.1; omega) (by have := wb.2; omega) (by have := wb.1; omega) (by have := wb.2; omega)) (rangeSize_nat _ _) lF lN ⟨ys, c1, rfl, by simpa using hy⟩ ?_ ?_
      · rintro j tj uj nxj hj tkj own2 hltj ho2 ⟨ys2, c5, rfl, hy2⟩ F2 N2
        simp only [List.cons_append] at N2
        have l3 : ∀ p, p ∈ led vb cb → p.1 < l' := lt_keys (Upd.keys (U vb cb)) l1
        have hyl2 : ys2.length < 2 ^ 10 := by rw [hy2.length, List.length_append, List.length_replicate]; omega
        refine hidQ fun QI hQI => ?_
        k_steps
        refine hidOf hQI ?_
        k_steps
        rename News _ _ _ _ => lN2
        (try simp only [List.push_toArray] at lN2)
        exact end1 lN2 (by assumption) ⟨by tb_rel, _, _, rfl, items_put hy2 (.int _ _ .nil)⟩ ho2
      · rintro uj nxj hj tkj ⟨ys2, c5, rfl, hy2⟩ F2 N2
        k_steps
        refine hidOf hQQ ?_
        k_steps
        have hk : OwnOff own (((l', listOf ys2.toArray c5) :: led vb cb).map (·.1)) := by
          intro p hp a ha
          refine ho p hp a ?_
          rw [List.map_cons] at ha ⊢
          rwa [Upd.keys (hUU vs1 c2 vb cb)] at ha
        exact end1 (by assumption) (by assumption) ⟨by tb_rel, _, _, _, _, _, _, rfl, hy2, by rw [List.length_append, List.length_replicate]; omega, items_all hyk wa, ib, by omega⟩ hk
    · rename_i kb tb vb nb cb hb tkb wb ib lb F' N' h' tk t1 t2 t3 rg2 lF lN gg
      rename Within _ 5 => wa
      rename (List.length _ ≤ List.length ns1) => la
      refine name_within wa fun ka e => ?_
      subst e
      clear F' N' F1 N1
      have hn2 : ((1 + kb : Int) - 0).toNat ≤ 3 := by have := wb.2; omega
      refine range_loop [] (fun j _ nx => ∃ (ys2 : List Value) (c5 : Nat), nx = (l', listOf ys2.toArray c5) :: (led vb cb ++ own) ∧ ItemsAre ys2 (os ++ List.replicate j Option.none))
        rfl rg2 (small_one (by have := wb.1; omega) (by have := wb.2; omega) (by have := wb.1; omega) (by have := wb.2; omega)) (rangeSize_nat _ _) lF lN ⟨ys, c1, rfl, by simpa using hy⟩ ?_ ?_
      · rintro j tj uj nxj hj tkj own2 hltj ho2 ⟨ys2, c5, rfl, hy2⟩ F2 N2
        simp only [List.cons_append] at N2
        have l3 : ∀ p, p ∈ led vb cb → p.1 < l' := lt_keys (Upd.keys (U vb cb)) l1
        have hyl2 : ys2.length < 2 ^ 10 := by rw [hy2.length, List.length_append, List.length_replicate]; omega
        refine hidQ fun QI hQI => ?_
        k_steps
        refine hidOf hQI ?_
        k_steps
        rename News _ _ _ _ => lN2
        (try simp only [List.push_toArray] at lN2)
        exact end1 lN2 (by assumption) ⟨by tb_rel, _, _, rfl, items_put hy2 (.none .nil)⟩ ho2
      · rintro uj nxj hj tkj ⟨ys2, c5, rfl, hy2⟩ F2 N2
        k_steps
        refine hidOf hQQ ?_
        k_steps
        have hk : OwnOff own (((l', listOf ys2.toArray c5) :: led vb cb).map (·.1)) := by
          intro p hp a ha
          refine ho p hp a ?_
          rw [List.map_cons] at ha ⊢
          rwa [Upd.keys (hUU vs1 c2 vb cb)] at ha
        exact end1 (by assumption) (by assumption) ⟨by tb_rel, _, _, _, _, _, _, rfl, hy2, by rw [List.length_append, List.length_replicate]; omega, items_all hyk rfl, ib, by omega⟩ hk
    · rename_i kb tb vb nb cb hb tkb wb ib lb F' N' h' tk t1 t2 t3 rg2 lF lN gg
      rename Within _ 5 => wa
      rename (List.length _ ≤ List.length ns1) => la
      refine name_within wa fun ka e => ?_
      subst e
      clear F' N' F1 N1
      have hn2 : ((1 + kb : Int) - 0).toNat ≤ 3 := by have := wb.2; omega
      refine range_loop [] (fun j _ nx => ∃ (ys2 : List Value) (c5 : Nat), nx = (l', listOf ys2.toArray c5) :: (led vb cb ++ own) ∧ ItemsAre ys2 (os ++ List.replicate j (some ka)))
        rfl rg2 (small_one (by have := wb.1; omega) (by have := wb.2; omega) (by have := wb.1; omega) (by have := wb.2; omega)) (rangeSize_nat _ _) lF lN ⟨ys, c1, rfl, by simpa using hy⟩ ?_ ?_
      · rintro j tj uj nxj hj tkj own2 hltj ho2 ⟨ys2, c5, rfl, hy2⟩ F2 N2
        simp only [List.cons_append] at N2
        have l3 : ∀ p, p ∈ led vb cb → p.1 < l' := lt_keys (Upd.keys (U vb cb)) l1
        have hyl2 : ys2.length < 2 ^ 10 := by rw [hy2.length, List.length_append, List.length_replicate]; omega
        refine hidQ fun QI hQI => ?_
        k_steps
        refine hidOf hQI ?_
        k_steps
        rename News _ _ _ _ => lN2
        (try simp only [List.push_toArray] at lN2)
        exact end1 lN2 (by assumption) ⟨by tb_rel, _, _, rfl, items_put hy2 (.int _ _ .nil)⟩ ho2
      · rintro uj nxj hj tkj ⟨ys2, c5, rfl, hy2⟩ F2 N2
        k_steps
        refine hidOf hQQ ?_
        k_steps
        have hk : OwnOff own (((l', listOf ys2.toArray c5) :: led vb cb).map (·.1)) := by
          intro p hp a ha
          refine ho p hp a ?_
          rw [List.map_cons] at ha ⊢
          rwa [Upd.keys (hUU vs1 c2 vb cb)] at ha
        exact end1 (by assumption) (by assumption) ⟨by tb_rel, _, _, _, _, _, _, rfl, hy2, by rw [List.length_append, List.length_replicate]; omega, items_all hyk wa, ib, by omega⟩ hk
  · rintro u nx h tk ⟨ys, os, c1, vs1, ns1, c2, rfl, hy, hyl, hyk, hv, hvl⟩ F1 N1
    k_steps
    exact ret _ _ _ _ _ _ _ _ _ hy (by omega) hyk l1 hv hvl (by assumption) (by assumption)
end
section
local macro_rules | `(tactic| tb_rel) => `(tactic| (repeat (first | exact stay0 | (refine stay_loop (by decide) (by decide) ?_) | (refine stay_put (by decide) ?_))))
local macro_rules | `(tactic| walk_at "exec For Name Subscript cons nil") => `(tactic| (k_here; (rename Fr _ _ _ _ => lF'); (with_unfolding_all refine' For_invVF lF' ?k1 ?k2 ?_; (case k1 => exact rfl); (case k2 => exact rfl); k_whole)))
section
variable {prog : Program} {w : World} {A : Around} {E : Value → Shared → Prop} {s : Shared} {h₀ : Heap} {L : Addr} {m : Str → Option Value} {rest : List (Addr × Obj)}
theorem rev_head {l : Addr} {vs : List Value} {c : Nat} {Q : Value → Shared → Prop} (F : Fr h₀ L s.heap m) (N : News h₀ L s.heap ((l, listOf vs.toArray c) :: rest)) (hlt : ∀ p, p ∈ rest → p.1 < l) (hb : vs.length < 2 ^ 20)
    (h : ∀ h', Fr h₀ L h' m → News h₀ L h' ((l, listOf vs.reverse.toArray c) :: rest) → Q .none { s with heap := h' }) : wpAny (model prog w) A (call (.builtin "list.reverse") [.ref l]) Q E s :=
  kl_reverse F N rfl (.head fun p hp => Nat.ne_of_lt (hlt p hp)) (by rw [PySem.sizeLine_eq]; simp only [List.toList_toArray]; omega) h
end
local macro_rules | `(tactic| walk_at "call builtin:list.reverse") => `(tactic| (k_here; (with_reducible show wpAny _ _ (call (Value.builtin _) [Value.ref _]) _ _ _); k_dflt (refine' rev_head ?F ?N ?U ?z ?_; (case F => k_asm); (case N => k_asm); (case U => assumption); (case z => (have hz9 := IntsAre.length (by assumption)); omega); k_whole); intro h9 F9 N9))
theorem ints_rev {vs : List Value} {ns : List Int} (h : IntsAre vs ns) : IntsAre vs.reverse ns.reverse := by
  induction h with
  | nil => exact .nil
  | cons k t h ih => rw [List.reverse_cons, List.reverse_cons]; exact IntsAre.append ih (.cons k t .nil)
theorem name_lt3 {a b : Addr} {news : List (Addr × Obj)} {P : Prop} (_ : a < b ∧ AllLt b news) (k : ∀ a' b' : Addr, a' = a → b' = b → P) : P := k a b rfl rfl
theorem pebbles_spec {w : World} {p : Program} {loose : List Str} {mean : ExcName → Option Value} {mg mb : Str → Option Value}
    {dp un : Nat} {gd : Option (List Code)} {cn : Str} {cs : Scope} {a : Addr} {ccd : Value} {cl : List (Str × Addr)} {outer : List Env} {A₀ : Around} {base h₀ : Heap} {L : Addr} {m : Str → Option Value} {news : List (Addr × Obj)} {s : Shared} {Q E : Value → Shared → Prop} {ls : Addr} {vs : List Value} {ns : List Int}
    (B : Below A₀ base outer h₀) (F : Fr h₀ L s.heap m) (X : (frag.heap_1 w.params).In h₀) (N : News h₀ L s.heap news) (T : Top p loose mean mg mb h₀) (hk : cs.kind = .function) (hdp : dp + 3 < recursionLimit) (hun : un + 30 < cLine) (hl : h₀.IsList ls vs.toArray) (hi : IntsAre vs ns) (hb : ns.length ≤ 63)
    (ret : ∀ l' ys ms c1 h' tk', IntsAre ys ms → ms.length ≤ 110 → (∀ q ∈ news, q.1 < l') → Fr h₀ L h' m → News h₀ L h' ((l', listOf ys.toArray c1) :: news) → Q (.ref l') { s with heap := h', toks := tk' }) :
    wpAny (model Challenge.pw_ov0077_01 w) (ktrTop dp un gd cn cs L a ccd cl outer) (call (.ref 508) [.ref ls]) Q E s := by
  have kMk : KstMark := kstMark
  k_steps
  rename Fr h₀ _ _ _ => FG
  have hl2 := Fr.lst FG hl
  clear FG
  k_steps
  rename Fr _ _ _ _ => lF
  rename News _ _ _ _ => lN
  rename IntsAre _ (List.take 34 ns) => hI
  rename (∀ p, p ∈ news → p.1 < _) => l1
  rename (_ < _ ∧ AllLt _ news) => l2
  refine name_lt3 l2 fun l' ld el ed => ?_
  subst el
  subst ed
  have hlt : (List.take 34 ns).length ≤ 34 := by rw [List.length_take]; omega
  refine list_loop [Str.ofString "pebbles", Str.ofString "pebble", Str.ofString "more", Str.ofString "lap"] (fun i u nx => ∃ (lp : Addr) (ys : List Value) (ms : List Int) (c : Nat), u (Str.ofString "pebbles") = some (.ref lp) ∧ (lp, listOf ys.toArray c) ∈ nx ∧ (∀ p ∈ news, p ∈ nx) ∧ (∀ q ∈ news, q.1 < lp) ∧ IntsAre ys ms ∧ ms.length ≤ 11 * i)
    rfl (.head _) lF lN ⟨l', [], [], 0, rfl, .tail _ (.head _), fun p hp => .tail _ (.tail _ hp), l1, .nil, by simp⟩ ?_ ?_
  · clear lF lN
    rintro i v u nx h tk own hv ho hld ⟨lp, ys, ms, c, hu, hlp, hnn, hlt3, hy, hyl⟩ F1 N1
    have hi34 : i < 34 := by
      have h1 := (List.getElem?_eq_some_iff.mp hv).1
      rw [hI.length] at h1
      omega
    obtain ⟨k, t, rfl, ek⟩ := IntsAre.at hI _ _ hv
    have F2 := fr_put (n := Str.ofString "pebbles") F1 (by with_unfolding_all exact hu)
    clear F1
    generalize hG : nx ++ own = G at N1
    have hlpG : (lp, listOf ys.toArray c) ∈ G := hG ▸ List.mem_append_left _ hlp
    have hyb : ys.length < 2 ^ 10 := by rw [hy.length]; omega
    refine hidQ fun QQ hQQ => ?_
    k_steps
    all_goals (
      rename Fr _ _ _ _ => lF
      rename News _ _ _ _ => lN
      rename IsRange _ _ _ _ _ _ _ _ => rg
      rename (∀ p, p ∈ G → p.1 < _) => lm1
      refine name_lt lm1 fun lm el => ?_
      subst el
      clear F2 N1
      refine range_loop [Str.ofString "pebble"] (fun j u nx => ∃ (pv : Int) (tp : Tok) (ys2 : List Value) (ms2 : List Int) (c5 : Nat), u (Str.ofString "pebble") = some (.int pv tp) ∧ nx = (lm, listOf ys2.toArray c5) :: G ∧ IntsAre ys2 ms2 ∧ ms2.length ≤ 1 + j)
        rfl rg (by decide) (rangeSize_nat _ _) lF lN ⟨_, _, [_], [_], 0, rfl, rfl, .cons _ _ .nil, by simp⟩ ?_ ?_
      · clear lF lN
        rintro j tj uj nxj hj tkj own2 hltj ho2 ⟨pv, tp, ys2, ms2, c5, hu2, rfl, hy2, hyl2⟩ F3 N3
        have F4 := fr_put (n := Str.ofString "pebble") F3 (by with_unfolding_all exact hu2)
        clear F3
        simp only [List.cons_append] at N3
        have hyb2 : ys2.length < 2 ^ 10 := by rw [hy2.length]; omega
        refine hidQ fun QI hQI => ?_
        k_steps
        · refine hidOf hQI ?_
          k_steps
          rename News _ _ _ _ => lN2
          (try simp only [List.push_toArray] at lN2)
          exact end1 lN2 (by assumption) ⟨by tb_rel, _, _, _, _, _, by with_unfolding_all rfl, rfl, IntsAre.append hy2 (.cons _ _ .nil), by simp; omega⟩ ho2
        · refine hidOf hQI ?_
          k_steps
          exact end1 (by assumption) (by assumption) ⟨by tb_rel, _, _, _, _, _, by with_unfolding_all rfl, rfl, hy2, by omega⟩ ho2
      · clear lF lN
        rintro uj nxj hj tkj ⟨pv, tp, ys2, ms2, c5, hu2, rfl, hy2, hyl2⟩ F3 N3
        have F4 := fr_put (n := Str.ofString "pebble") F3 (by with_unfolding_all exact hu2)
        clear F3
        have hyb2 : ys2.length < 2 ^ 10 := by rw [hy2.length]; omega
        k_steps
        refine hidOf hQQ ?_
        k_steps
        rename (_ < _ ∧ AllLt _ G) => l9
        have l10 := kst_ltOf l9.2
        rename News _ _ _ _ => lN
        rename IntsAre _ (ms ++ ms2) => hI2
        have hoG : ∀ p ∈ own, p ∈ G := fun p hp => hG ▸ List.mem_append_right _ hp
        have hnG : ∀ p ∈ nx, p ∈ G := fun p hp => hG ▸ List.mem_append_left _ hp
        refine InvEndG.intro (by assumption) lN ⟨.tail _ hld, by tb_rel, _, _, _, 0, by with_unfolding_all rfl, .head _, fun p hp => .tail _ (hnn p hp), fun q hq => l10 q (hnG q (hnn q hq)), hI2, by rw [List.length_append]; omega⟩ ?_ (fun p hp => ?_) (fun p hp => .tail _ (.tail _ (hoG p hp)))
        · intro p hp a ha
          rcases List.mem_cons.mp ha with rfl | ha
          · exact Nat.ne_of_lt (l10 p (hoG p hp))
          · exact ho p hp a ha
        · rcases List.mem_cons.mp hp with rfl | hp
          · exact .head _
          · exact .tail _ (.tail _ (hnG p hp)))
  · rintro u nx h tk ⟨lp, ys, ms, c, hu, hlp, hnn, hlt3, hy, hyl⟩ F1 N1
    have F2 := fr_put (n := Str.ofString "pebbles") F1 (by with_unfolding_all exact hu)
    clear F1
    have hwl := IntsAre.length hI
    have hyb : ys.length < 2 ^ 10 := by rw [hy.length]; omega
    k_steps
    rename IntsAre _ (List.take 110 ms) => hI3
    rename (∀ p, p ∈ nx → p.1 < _) => l9
    exact ret _ _ _ _ _ _ (ints_rev hI3) (by rw [List.length_reverse, List.length_take]; omega) (fun q hq => l9 q (hnn q hq)) (by assumption) (fun p hp => (by assumption : News h₀ L _ _) p (by
      rcases List.mem_cons.mp hp with rfl | hp
      · exact .head _
      · exact .tail _ (hnn p hp)))
end
section
local macro_rules | `(tactic| tb_rel) => `(tactic| (repeat (first | exact stay0 | (refine stay_loop (by decide) (by decide) ?_) | (refine stay_put (by decide) ?_))))
local macro_rules | `(tactic| walk_at "exec For Name Attribute cons nil") => `(tactic| (k_here; (rename Fr _ _ _ _ => lF'); (with_unfolding_all refine' For_invVF lF' ?k1 ?k2 ?_; (case k1 => exact rfl); (case k2 => exact rfl); k_whole)))
theorem end1g {h₀ h' : Heap} {L : Addr} {J : (Str → Option Value) → List (Addr × Obj) → Prop} {m' : Str → Option Value} {own news : List (Addr × Obj)} {s₁ : Shared} {tk : Nat} {g q : Addr × Obj}
    (N : News h₀ L h' (g :: q :: (news ++ own))) (F : Fr h₀ L h' m') (hj : J m' (q :: news)) (ho : OwnOff own ((q :: news).map (·.1))) : InvEndG h₀ L J own s₁ { s₁ with heap := h', toks := tk } :=
  end1 (fun p hp => N p (List.mem_cons_of_mem _ hp)) F hj ho
theorem to_whole_spec {w : World} {p : Program} {loose : List Str} {mean : ExcName → Option Value} {mg mb : Str → Option Value}
    {dp un : Nat} {gd : Option (List Code)} {cn : Str} {cs : Scope} {a : Addr} {ccd : Value} {cl : List (Str × Addr)} {outer : List Env} {A₀ : Around} {base h₀ : Heap} {L : Addr} {m : Str → Option Value} {news : List (Addr × Obj)} {s : Shared} {Q E : Value → Shared → Prop} {k : Int} {t t1 : Tok} {tp : Addr} {n : Nat}
    (B : Below A₀ base outer h₀) (F : Fr h₀ L s.heap m) (X : (frag.heap_1 w.params).In h₀) (N : News h₀ L s.heap news) (T : Top p loose mean mg mb h₀) (hk : cs.kind = .function) (hdp : dp + 4 < recursionLimit) (hun : un + 30 < cLine) (ht : (tp, tupObj #[.int k t, .int 1 t1] n) ∈ news) (h0 : 0 ≤ k) (hs : k < 2 ^ 20)
    (ret : ∀ t h' tk', Fr h₀ L h' m → News h₀ L h' news → Q (.int k t) { s with heap := h', toks := tk' }) :
    wpAny (model Challenge.pw_ov0077_01 w) (ktrTop dp un gd cn cs L a ccd cl outer) (call (.ref 304) [.ref tp]) Q E s := by
  have kMk : KstMark := kstMark
  k_steps
  rw [show (if k < 0 then -k else k).fdiv 1 = k by rw [if_neg (by omega)]; exact Int.fdiv_one k]
  exact ret _ _ _ (by assumption) (by assumption)
local macro_rules | `(tactic| walk_at "call ref") => `(tactic| ((with_reducible show wpAny _ _ (call (Value.ref 304) _ _) _ _ _); k_dflt (refine' to_whole_spec (by k_asm) (by k_asm) (by k_asm) (by k_asm) (by k_asm) (by first | exact rfl | assumption) (by ktr_room) (by ktr_units) (by k_mem) (by omega) (by omega) ?_;  k_whole); walk_at "fin"))
theorem count_spec {w : World} {p : Program} {loose : List Str} {mean : ExcName → Option Value} {mg mb : Str → Option Value}
    {dp un : Nat} {gd : Option (List Code)} {cn : Str} {cs : Scope} {a : Addr} {ccd : Value} {cl : List (Str × Addr)} {outer : List Env} {A₀ : Around} {base h₀ : Heap} {L : Addr} {m : Str → Option Value} {news : List (Addr × Obj)} {s : Shared} {Q E : Value → Shared → Prop} {l x d : Addr} {t1 t2 t3 t4 t5 tm : Tok} {vs : List Value} {c : Nat} {ns : List Int} {nm : Value}
    (B : Below A₀ base outer h₀) (F : Fr h₀ L s.heap m) (X : (frag.heap_1 w.params).In h₀) (N : News h₀ L s.heap news) (T : Top p loose mean mg mb h₀) (hk : cs.kind = .function) (hdp : dp + 8 < recursionLimit) (hun : un + 80 < cLine) (hx : (x, instObj 78 d) ∈ news) (hxd : (d, dictOf (vecD w.params t1 t2 t3 t4 t5 tm l) 5) ∈ news) (hl : (l, listOf vs.toArray c) ∈ news) (hi : IntsAre vs ns) (hb : ns.length < 2 ^ 10) (hs : ∀ k ∈ ns, 0 ≤ k ∧ k < 2 ^ 10)
    (ret : ∀ l' ys c' h' tk', IntsAre ys ns → (∀ q ∈ news, q.1 < l') → Fr h₀ L h' m → News h₀ L h' ((l', listOf ys.toArray c') :: news) → Q (.ref l') { s with heap := h', toks := tk' }) :
    wpAny (model Challenge.pw_ov0077_01 w) (ktrTop dp un gd cn cs L a ccd cl outer) (call (.ref 473) [.ref x, nm]) Q E s := by
  have kMk : KstMark := kstMark
  k_steps
  rename Fr _ _ _ _ => lF
  rename News _ _ _ _ => lN
  rename (∀ p, p ∈ news → p.1 < _) => l1
  rename (_ < _ ∧ AllLt _ news) => l2
  refine name_lt2 l2 fun lf el => ?_
  subst el
  refine list_loop [Str.ofString "x"] (fun i _ nx => ∃ (ys : List Value) (c' : Nat), nx = (lf, listOf ys.toArray c') :: _ ∧ IntsAre ys (ns.take i)) rfl (.tail _ (.tail _ hl)) lF lN ⟨[], 0, rfl, .nil⟩ ?_ ?_
  · clear lF lN
    rintro i v u nx h tk own hv ho hld ⟨ys, c', rfl, hy⟩ F1 N1
    obtain ⟨k, t, rfl, hek⟩ := IntsAre.at hi _ _ hv
    have hk := hs k (List.mem_of_getElem? hek)
    have hyl : ys.length < 2 ^ 10 := by rw [hy.length, List.length_take]; omega
    simp only [List.cons_append] at N1
    refine hidQ fun QQ hQQ => ?_
    k_steps
    refine hidOf hQQ ?_
    k_steps
    rename News _ _ _ _ => lN2
    (try simp only [List.push_toArray] at lN2)
    refine end1g (news := _ :: news) lN2 (by assumption) ⟨.tail _ (.tail _ hl), by tb_rel, _, _, rfl, ?_⟩ ho
    rw [List.take_add_one, hek]
    exact IntsAre.append hy (.cons _ _ .nil)
  · rintro u nx h tk ⟨ys, c', rfl, hy⟩ F1 N1
    k_steps
    rw [List.take_of_length_le (by rw [hi.length]; omega)] at hy
    exact ret _ _ _ _ _ hy (kst_ltOf l2.2) (by assumption) (fun p hp => (by assumption : News h₀ L _ _) p (by
      rcases List.mem_cons.mp hp with rfl | hp
      · exact .head _
      · exact .tail _ (.tail _ hp)))
end
section
local macro_rules | `(tactic| tb_rel) => `(tactic| (repeat (first | exact stay0 | (refine stay_loop (by decide) (by decide) ?_) | (refine stay_put (by decide) ?_))))
local macro_rules | `(tactic| walk_at "call ref") => `(tactic| ((with_reducible show wpAny _ _ (call (Value.ref 103) _ _) _ _ _); k_dflt (refine' length_spec (by k_asm) (by k_asm) (by k_asm) (by k_asm) (by k_asm) (by first | exact rfl | assumption) (by ktr_room) (by ktr_units) (by k_mem) (by k_mem) (by k_mem) (by omega) ?_;  k_whole); walk_at "fin"))
local macro_rules | `(tactic| walk_at "call ref") => `(tactic| ((with_reducible show wpAny _ _ (call (Value.ref 473) _ _) _ _ _); k_dflt (refine' count_spec (by k_asm) (by k_asm) (by k_asm) (by k_asm) (by k_asm) (by first | exact rfl | assumption) (by ktr_room) (by ktr_units) (by k_mem) (by k_mem) (by k_mem) (by assumption) (by omega) (by assumption) ?_;  k_whole); intro _ _ _ _ _ _ lt9; intros; (try dsimp only); (try k_lt lt9); (try k_fold)))
local macro_rules | `(tactic| walk_at "call ref") => `(tactic| ((with_reducible show wpAny _ _ (call (Value.ref 452) _ _) _ _ _); k_dflt (refine' pick_spec (by k_asm) (by k_asm) (by k_asm) (by k_asm) (by k_asm) (by first | exact rfl | assumption) (by ktr_room) (by ktr_units) (by k_mem) (by k_mem) (by k_mem) (by k_mem) (by assumption) (by omega) (by omega) (by assumption) ?_;  k_whole); walk_at "fin"))
/-- each place as often as the counts say -/
noncomputable def expand (ns : List Int) : Nat → List Int
  | 0 => []
  | i + 1 => expand ns i ++ List.replicate (ns.getD i 0).toNat (i : Int)
theorem expand_len {ns : List Int} (h : ∀ k ∈ ns, 0 ≤ k ∧ k < 32) : ∀ i, (expand ns i).length ≤ 32 * i
  | 0 => by simp [expand]
  | i + 1 => by
    have ih := expand_len h i
    have : (ns.getD i 0).toNat ≤ 32 := by
      rw [List.getD]
      cases e : ns[i]? with
      | none => simp
      | some k => have := h k (List.mem_of_getElem? e); simp; omega
    rw [expand, List.length_append, List.length_replicate]
    omega
theorem expand_mem {ns : List Int} : ∀ {i : Nat} {k : Int}, k ∈ expand ns i → 0 ≤ k ∧ k < i
  | 0, k, h => by simp [expand] at h
  | i + 1, k, h => by
    rw [expand] at h
    rcases List.mem_append.mp h with h | h
    · have := expand_mem h; omega
    · have := (List.mem_replicate.mp h).2; omega
theorem inv_spec {w : World} {p : Program} {loose : List Str} {mean : ExcName → Option Value} {mg mb : Str → Option Value}
    {dp un : Nat} {gd : Option (List Code)} {cn : Str} {cs : Scope} {a : Addr} {ccd : Value} {cl : List (Str × Addr)} {outer : List Env} {A₀ : Around} {base h₀ : Heap} {L : Addr} {m : Str → Option Value} {news : List (Addr × Obj)} {s : Shared} {Q E : Value → Shared → Prop} {l x d : Addr} {t1 t2 t3 t4 t5 tm : Tok} {vs : List Value} {c : Nat} {l2 x2 d2 : Addr} {s1 s2 s3 s4 s5 sm : Tok} {ws : List Value} {c2 : Nat} {ns : List Int}
    (B : Below A₀ base outer h₀) (F : Fr h₀ L s.heap m) (X : (frag.heap_1 w.params).In h₀) (N : News h₀ L s.heap news) (T : Top p loose mean mg mb h₀) (hk : cs.kind = .function) (hdp : dp + 30 < recursionLimit) (hun : un + 300 < cLine) (hx : (x, instObj 78 d) ∈ news) (hxd : (d, dictOf (vecD w.params t1 t2 t3 t4 t5 tm l) 5) ∈ news) (hl : (l, listOf vs.toArray c) ∈ news) (hx2 : (x2, instObj 78 d2) ∈ news) (hxd2 : (d2, dictOf (vecD w.params s1 s2 s3 s4 s5 sm l2) 5) ∈ news) (hl2 : (l2, listOf ws.toArray c2) ∈ news) (hi : IntsAre vs ns) (he : ws.length = vs.length) (hb : ns.length ≤ 32) (hs : ∀ k ∈ ns, 0 ≤ k ∧ k < 32)
    (ret : ∀ y e l' (ys : List Value) c' t1 t2 t3 t4 t5 h' tk', ys.length = (expand ns ns.length).length → (∀ (i : Nat) v, ys[i]? = some v → ∃ k, (expand ns ns.length)[i]? = some k ∧ ws[k.toNat]? = some v) → (∀ p ∈ news, p.1 ≠ l') → (∀ q ∈ news, q.1 < e) → l' < e → e < y → Fr h₀ L h' m →
      News h₀ L h' ((y, instObj 78 e) :: (e, dictOf (vecD w.params t1 t2 t3 t4 t5 sm l') 5) :: (l', listOf ys.toArray c') :: news) → Q (.ref y) { s with heap := h', toks := tk' }) :
    wpAny (model Challenge.pw_ov0077_01 w) (ktrTop dp un gd cn cs L a ccd cl outer) (call (.ref 494) [.ref x, .ref x2]) Q E s := by
  have kMk : KstMark := kstMark
  have hlen := IntsAre.length hi
  have hs' : ∀ k ∈ ns, 0 ≤ k ∧ k < 2 ^ 10 := fun k hk => ⟨(hs k hk).1, Int.lt_trans (hs k hk).2 (by decide)⟩
  k_steps
  · rename (_ ≠ _) => hne
    exact absurd (by rw [he]) hne
  rename Fr _ _ _ _ => lF
  rename News _ _ _ _ => lN
  rename IsRange _ _ _ _ _ _ _ _ => rg
  rename IntsAre _ ns => hiC
  rename (_ < _ ∧ AllLt _ news) => l2
  refine name_lt3 l2 fun lc lf e1 e2 => ?_
  subst e1
  subst e2
  refine range_loop [Str.ofString "_"] (fun i _ nx => ∃ (ys : List Value) (c' : Nat), nx = (lf, listOf ys.toArray c') :: (lc, _) :: news ∧ IntsAre ys (expand ns i)) rfl rg (small_one (by omega) (by omega) (by omega) (by omega)) (rangeSize_nat _ _) lF lN ⟨[], 0, rfl, .nil⟩ ?_ ?_
  · clear lF lN
    rintro i t u nx h tk own hlt ho ⟨ys, c', rfl, hy⟩ F1 N1
    simp only [List.cons_append] at N1
    have hil : i < ns.length := by omega
    have e1 : ((0 : Int) + (i : Int)).toNat = i := by omega
    have hk : 0 ≤ ns.getD ((0 : Int) + (i : Int)).toNat 0 ∧ ns.getD ((0 : Int) + (i : Int)).toNat 0 < 32 := by
      rw [e1, List.getD, List.getElem?_eq_getElem hil]
      exact hs _ (List.getElem_mem hil)
    have hel := expand_len hs i
    refine hidQ fun QQ hQQ => ?_
    k_steps
    rename Fr _ _ _ _ => lF
    rename News _ _ _ _ => lN
    rename IsRange _ _ _ _ _ _ _ _ => rg2
    refine range_loop [] (fun j _ nx => ∃ (ys2 : List Value) (c5 : Nat), nx = (lf, listOf ys2.toArray c5) :: (lc, _) :: (news ++ own) ∧ IntsAre ys2 (expand ns i ++ List.replicate j (0 + (i : Int))))
      rfl rg2 (small_one (by omega) (by omega) (by omega) (by omega)) (rangeSize_nat _ _) lF lN ⟨ys, c', rfl, by simpa using hy⟩ ?_ ?_
    · clear lF lN
      rintro j tj uj nxj hj tkj own2 hltj ho2 ⟨ys2, c5, rfl, hy2⟩ F2 N2
      simp only [List.cons_append] at N2
      have hyl2 : ys2.length < 2 ^ 11 := by rw [hy2.length, List.length_append, List.length_replicate]; omega
      refine hidQ fun QI hQI => ?_
      k_steps
      refine hidOf hQI ?_
      k_steps
      rename News _ _ _ _ => lN2
      (try simp only [List.push_toArray] at lN2)
      refine end1 (news := _ :: (news ++ own)) lN2 (by assumption) ⟨by tb_rel, _, _, rfl, ?_⟩ ho2
      rw [List.replicate_succ', ← List.append_assoc]
      exact IntsAre.append hy2 (.cons _ _ .nil)
    · clear lF lN
      rintro uj nxj hj tkj ⟨ys2, c5, rfl, hy2⟩ F2 N2
      k_steps
      refine hidOf hQQ ?_
      k_steps
      rename News _ _ _ _ => lN2
      refine end1 (news := _ :: news) lN2 (by assumption) ⟨by tb_rel, ys2, c5, rfl, ?_⟩ ho
      have e3 : (ns.getD (0 + (i : Int)).toNat 0 - 0).toNat = (ns.getD i 0).toNat := by rw [e1]; omega
      have e4 : (0 : Int) + (i : Int) = (i : Int) := by omega
      rw [e3, e4] at hy2
      exact hy2
  · rintro u nx h tk ⟨ys, c', rfl, hy⟩ F1 N1
    have e : ((ns.length : Int) - 0).toNat = ns.length := by omega
    rw [e] at hy
    have hel := expand_len hs ns.length
    have hyl := hy.length
    have hin : ∀ k ∈ expand ns ns.length, 0 ≤ k ∧ k < (ws.length : Int) := fun k hk => by have := expand_mem hk; omega
    k_steps
    rename LCg.Off1 _ _ => lt9
    rename_i lt8 lt7 lt6 F9 N9 kF kN Tc kX
    simp only [LCg.Off1] at lt9
    exact ret _ _ _ _ _ _ _ _ _ _ _ _ (by assumption) (by assumption) (fun p hp => off1_all lt9.2.2 p hp) (fun q hq => lt8 q (.tail _ (.tail _ hq))) lt7 lt6 (by assumption) (fun p hp => (by assumption : News h₀ L _ _) p (by
      rcases List.mem_cons.mp hp with rfl | hp
      · exact .head _
      rcases List.mem_cons.mp hp with rfl | hp
      · exact .tail _ (.head _)
      rcases List.mem_cons.mp hp with rfl | hp
      · exact .tail _ (.tail _ (.head _))
      · exact .tail _ (.tail _ (.tail _ (.tail _ (.tail _ hp))))))
end
section
section
variable {prog : Program} {w : World} {A : Around} {K : Frag} {C C' x : Addr} {s : Shared} {h₀ : Heap} {L : Addr} {m : Str → Option Value} {rest : List (Addr × Obj)} {E : Value → Shared → Prop} {name : Str} {v : Value}
theorem passes_exc (self : Value) : refuseLoop self "__setattr__" [.type "Exception", .type "BaseException", .type "object"] = pure () := by kernel_rfl
/-- the first attribute stored on an exception of an own class: its dict is made -/
theorem exc_set {cd : ClassData} {vs : Array Value} {Q : Unit → Shared → Prop} (F : Fr h₀ L s.heap m) (X₀ : K.In h₀) (N : News h₀ L s.heap ((x, ⟨.ref C, none, .fields vs, #[]⟩) :: rest)) (hap : ∀ p ∈ rest, p.1 ≠ x)
    (hs : findIn K (.ref C) "__setattr__" = some (some (.builtin "object.__setattr__"))) (hc : clsIn K C = some cd) (hm : cd.mro = [.ref C, .ref C', .type "Exception", .type "BaseException", .type "object"]) (hd : cd.hasDict = true)
    (ha : findIn K (.ref C) name = some none)
    (h : ∀ D h', Fr h₀ L h' m → News h₀ L h' ((D, dictOf [⟨PyData.keyHash w.params name, .str name (s.toks + 1), v⟩] 1) :: (x, ⟨.ref C, some D, .fields vs, #[]⟩) :: rest) → (∀ p ∈ rest, p.1 < D) → x < D → Q () { s with heap := h', toks := s.toks + 2 }) :
    wpAny (model prog w) A (setAttr (.ref x) name v) Q E s := by
  have X := X₀.keeps F.keep
  have I : InstAt s.heap x ⟨.ref C, none, .fields vs, #[]⟩ C none := ⟨(N _ (.head _)).1, rfl, rfl, trivial⟩
  refine set_plain X I hs ?_
  have SF := PySem.F.store_object
  have sub : Looks (model prog w) s.heap (isInstance (.ref x) (.type "object")) true := I.type.andThen (looks_mroIn X (by unfold mroIn; rw [hc, Option.bind_some, hm]; rfl))
  refine codeAny_call_builtin SF.slot.plain SF.entry (@check_slot (model prog w) _ _ { s with toks := s.toks + 1 } "object.__setattr__" "object" "__setattr__" (.ref x) [.str name s.toks, v] [] _ SF.kind SF.split sub (SF.args (.ref x) (.str name s.toks) v) ?_)
  have hmro : Looks (model prog w) s.heap (mroOf (.ref C)) cd.mro := (looks_clsIn X hc).andThen .now
  rw [osa_eq, refuse_eq]
  refine wpAny_bind (wpAny_bind (Looks.here (s := { s with toks := s.toks + 1 }) I.type (wpAny_bind (Looks.here (s := { s with toks := s.toks + 1 }) hmro ?_))))
  rw [hm, refuseLoop_ref, refuseLoop_ref, passes_exc]
  refine wpAny_pure (wpAny_bind (Looks.here (s := { s with toks := s.toks + 1 }) I.type (wpAny_bind (Looks.here (s := { s with toks := s.toks + 1 }) (looks_findIn X ha) (wpAny_bind (wpAny_pure ?_))))))
  refine wpAny_bind (wpAny_pure (wpAny_bind (wpAny_bind (wpAny_loadPart I.at_ (wpAny_bind (Looks.here (s := { s with toks := s.toks + 1 }) (looks_clsIn X hc) ?_))))))
  rw [hd]
  have N1 := N.push F emptyDict
  have F1 := F.push emptyDict
  have hlt : ∀ p ∈ (x, (⟨.ref C, none, .fields vs, #[]⟩ : Obj)) :: rest, p.1 < s.heap.objs.size := fun p hp => Heap.lt_size (N p hp).1
  have hxD : x < s.heap.objs.size := hlt _ (.head _)
  obtain ⟨F2, N2⟩ := news_upd (pre := [(s.heap.objs.size, emptyDict)]) (post := rest) (f := fun o => { o with dict := some s.heap.objs.size }) (o' := ⟨.ref C, some s.heap.objs.size, .fields vs, #[]⟩) F1 N1
    (fun p hp => by rw [List.mem_singleton.mp hp]; exact Nat.ne_of_gt hxD) hap rfl rfl
  have hr : ∀ p ∈ (x, (⟨.ref C, some s.heap.objs.size, .fields vs, #[]⟩ : Obj)) :: rest, p.1 ≠ s.heap.objs.size := fun p hp => by
    rcases List.mem_cons.mp hp with rfl | hp
    · exact Nat.ne_of_lt hxD
    · exact Nat.ne_of_lt (hlt p (.tail _ hp))
  obtain ⟨F3, N3⟩ := news_upd (pre := []) (f := Obj.putName name (PyData.keyHash w.params name) (.str name (s.toks + 1)) v) (o' := dictOf [⟨PyData.keyHash w.params name, .str name (s.toks + 1), v⟩] 1) F2 N2
    (fun p hp => nomatch hp) hr (by rw [show emptyDict = dictOf [] 0 from rfl, putName_dict]; rfl) rfl
  have D := (N2 _ (.head _)).1
  have D' := (N3 _ (.head _)).1
  rw [if_neg (by decide)]
  show wpAny _ _ (if (!true || !typeHasDict (.ref C)) = true then pure none else _) _ _ _
  rw [if_neg (by simp [typeHasDict])]
  refine wpAny_bind (wpAny_alloc (wpAny_bind (wpAny_update (Heap.get?_push_of_some _ I.at_) ?_)))
  refine wpAny_pure (a := some s.heap.objs.size) (wpAny_bind (wpAny_pure (wpAny_bind ?_)))
  unfold nsSet
  refine wpAny_bind (wpAny_bind (wpAny_askSetting (wpAny_pure (wpAny_bind (wpAny_mkText (wpAny_bind (wpAny_loadPart D ?_)))))))
  dsimp only
  have c : (!(#[] : Array DictEntry).any (·.key.isStr name) && (#[] : Array DictEntry).any (·.refKey)) = false := by simp
  rw [aRefKeyMayBeTheName_at, c]
  refine wpAny_updatePart D ?_
  refine wpAny_bind (wpAny_lookBehind D' (pastItsLine_dict (by rw [List.size_toArray, sizeLine_eq]; simp)) ?_)
  exact wpAny_pure (h _ _ F3 N3 (fun p hp => hlt p (.tail _ hp)) hxD)
theorem slotArgs_two (a b : Value) : slotArgs "__getattribute__" 1 ⟨[a, b], []⟩ = pure (a, [b]) := by kernel_rfl
set_option maxHeartbeats 400000 in
/-- an attribute that stands in an exception's own dict -/
theorem get_exc {ox : Obj} {od : Option Obj} {expr : Bool} {Q : Value → Shared → Prop} (X : K.In s.heap) (I : InstAt s.heap x ox C od) (hga : findIn K (.ref C) "__getattribute__" = some (some (.builtin "BaseException.__getattribute__")))
    (hgg : findIn K (.ref C) "__getattr__" = some none) (hm : mroIn K C (.type "BaseException") = some true) (hf : findObj K C od name = some (.value v)) (hv : handedIn v = true) (h : Q v { s with toks := s.toks + 1 }) :
    wpAny (model prog w) A (getAttr (.ref x) name expr) Q E s := by
  obtain ⟨hh', g, d, t, os⟩ := s
  have L0 := I.type (M := model prog w)
  have L1 := looks_findIn (M := model prog w) X hga
  have L2 := looks_findIn (M := model prog w) X hgg
  have L3 := looks_find (M := model prog w) X I hf
  unfold getAttr getAttrBy
  refine wpAny_bind (wpAny_mkText (wpAny_holding (wpAny_bind (L0.at (wpAny_bind (L1.at ?_))))))
  have hx2 : (Value.builtin "BaseException.__getattribute__" == Value.builtin "object.__getattribute__") = false := by decide +kernel
  have hx0 : (expr && onTheHeap (Value.builtin "BaseException.__getattribute__")) = false := by cases expr <;> rfl
  dsimp only
  rw [hx2, Bool.and_false, if_neg (by decide)]
  unfold getAttrByItsOwn hookBefore callGetattribute boundAndCalled
  rw [if_pos (show onTheHeap (Value.ref C) = true from rfl), hx0, if_neg (by decide)]
  refine wpAny_bind (L2.at (wpAny_bind (wpAny_attempt (wpAny_holding ?_))))
  rw [PySem.F.attr_Exception.ga.bind]
  refine wpAny_bind (wpAny_pure (wpAny_call ?_))
  have sub : Looks (model prog w) hh' (isInstance (.ref x) (.type "BaseException")) true := I.type.andThen (looks_mroIn X hm)
  have hk : builtinKind "BaseException.__getattribute__" = some .slot := by decide +kernel
  have hsp : splitId "BaseException.__getattribute__" = some ("BaseException", "__getattribute__") := by decide +kernel
  refine codeAny_call_builtin PySem.F.attr_Exception.ga.plain PySem.F.entry_bexc_ga (@check_slot (model prog w) _ _ ⟨hh', g, d, t + 1, os⟩ "BaseException.__getattribute__" "BaseException" "__getattribute__" (.ref x) [.str name t] [] _ hk hsp sub (PySem.F.args_bexc_ga _ _) ?_)
  show wpAny _ _ (Builtin.«object.__getattribute__» ⟨[.ref x, .str name t], []⟩) _ _ _
  unfold Builtin.«object.__getattribute__»
  refine wpAny_bind (wpAny_of_eq (slotArgs_two _ _) ?_)
  refine wpAny_bind (wpAny_pure ?_)
  refine wpAny_bind (L0.at (wpAny_bind (L3.at ?_)))
  refine wpAny_pure ?_
  show wpAny _ _ (handedOut v) _ _ _
  rw [handedOut_of hv]; exact wpAny_pure h
end
end
section
section
variable {prog : Program} {w : World} {A : Around} {E : Value → Shared → Prop} {h : Heap} {g : Array GenState} {d : Drawn} {t : Nat} {os : OsState} {K : Frag}
variable {nm q : Str} {C N fI : Addr} {bs bm : List Value} {hdct : Bool} {sn : List Str} {sub : List Value} {ab : Bool} {col : Option Bool} {dd : Option Addr} {k0 k1 k2 k3 k5 : Option Value}
abbrev excBm : List Value := [.type "Exception", .type "BaseException", .type "object"]
theorem exc_type_call (X : K.In h) (T : OwnTail h excBm bm) {rest : List Value} {Q : Fin → Shared → Prop} (hC : h.get? C = some (excClassObj nm q C N bs bm hdct sn sub ab col dd k0 k1 k2 k3 k5 "Exception.__new__"))
    (hi : findIn K (.ref C) "__init__" = some (some (.ref fI))) (hf : typeIn K (.ref fI) = some (.type "function"))
    (hq : ∀ h' e, Heap.MadeExcOf h h' e (.ref C) rest →
      wpAny (model prog w) A (call (.ref fI) (.ref e :: rest)) (fun r s' => r = .none ∧ Q (.done (.ret (.ref e))) s') E ⟨h', g, d, t, os⟩) (hrest : rest.length ≤ sizeLine) :
    wpAny (model prog w) A (Builtin.«type.__call__» ⟨.ref C :: rest, []⟩) Q E ⟨h, g, d, t, os⟩ := by
  have Fn := PySem.F.excBase_Exception
  have hB : excBm.contains (.type "Exception") = true := by decide +kernel
  repeat (first | with_reducible refine wpAny_loadPart_at hC ?_ | with_reducible refine wpAny_madeBy_exc hC ?_ | wp_step)
  refine codeAny_call_builtin_code (Code.quiet_builtin _ Fn.quiet) (wpAny_check_new_subU Fn hB T hC ?_)
  refine codeAny_exc_new_subU Fn hB Fn T hC ?_ hrest
  show wpAny _ _ _ _ _ _
  have kp : ∀ b o, h.get? b = some o → ((h.push { cls := .type "tuple", data := .seq rest.toArray }).push { cls := .ref C, data := .fields #[.ref h.objs.size, .none, .none, .none, .bool false, .none] }).get? b = some o :=
    fun b o e => Heap.get?_push_of_some _ (Heap.get?_push_of_some _ e)
  have hC₁ := kp _ _ hC
  have X₁ := X.keeps kp
  have hget : ((h.push { cls := .type "tuple", data := .seq rest.toArray }).push
      { cls := .ref C, data := .fields #[.ref h.objs.size, .none, .none, .none, .bool false, .none] }).get? (h.objs.size + 1) = some
      { cls := .ref C, data := .fields #[.ref h.objs.size, .none, .none, .none, .bool false, .none] } := by heap_get
  have hcC : (Value.ref C :: bm).contains (.ref C) = true := by simp
  unfold PySem.isInstance
  repeat (first | with_reducible refine wpAny_loadPart_at hget ?_ | (with_reducible refine wpAny_isSubtype_exc hC₁ ?_; rw [hcC]) | wp_step)
  show wpAny _ _ (typeLookup (.ref C) _) _ _ _
  refine (looks_findIn X₁ hi).at ?_
  refine wpAny_holding (wpAny_bind ((bind_fn X₁ _ hf).at ?_))
  refine wpAny_bind (wpAny_mono (hq _ (h.objs.size + 1) ⟨kp, Heap.get?_none_of_le (Nat.le_succ _), h.objs.size, hget, Heap.get?_none_of_le (Nat.le_refl _), ?_⟩) (fun r s' hr => ?_) fun _ _ x => x)
  · exact Heap.get?_push_of_some _ (Heap.get?_push_at rfl rfl)
  · obtain ⟨rfl, hQ⟩ := hr
    wp_walk
    exact hQ
theorem exc_call (X : K.In h) (T : OwnTail h excBm bm) {rest : List Value} {Q : Value → Shared → Prop} (hC : h.get? C = some (excClassObj nm q C N bs bm hdct sn sub ab col dd k0 k1 k2 k3 k5 "Exception.__new__"))
    (hi : findIn K (.ref C) "__init__" = some (some (.ref fI))) (hf : typeIn K (.ref fI) = some (.type "function"))
    (hq : ∀ h' e, Heap.MadeExcOf h h' e (.ref C) rest →
      wpAny (model prog w) (A.under (.builtin "type.__call__" ⟨.ref C :: rest, []⟩)) (call (.ref fI) (.ref e :: rest)) (fun r s' => r = .none ∧ Q (.ref e) s') E ⟨h', g, d, t, os⟩) (hrest : rest.length ≤ sizeLine) :
    wpAny (model prog w) A (call (.ref C) rest) Q E ⟨h, g, d, t, os⟩ := by
  have f1 := tc_lookup
  have f2 := tc_bind (.ref C)
  have hT : (⟨h, g, d, t, os⟩ : Shared).TypeIs (.ref C) "type" := ⟨_, hC, rfl⟩
  refine wpAny_call (codeAny_of_tree ?_)
  show wpAny _ _ (callAny (.ref C) _) _ _ _
  repeat (any_goals (first | assumption | with_reducible refine wpAny_loadPart_at hC ?_ | wp_step))
  refine ⟨rfl, ?_⟩
  exact codeAny_call_builtin_at (Code.quiet_builtin _ (by decide +kernel)) entry_typeCall (wpAny_check_type_call_sub hC (exc_type_call X T hC hi hf (fun h' e hm => hq h' e hm) hrest))
end
end
section
theorem dict_mapFields (f : Array Value → Array Value) (o : Obj) : (Obj.mapFields f o).dict = o.dict := by
  obtain ⟨c, d, data, sl⟩ := o
  cases data <;> rfl
/-- an exception in flight whose own dict is known -/
def TracedD (h base : Heap) (e : Addr) (cls : Value) (dct : Option Addr) (fl : Value) : Prop :=
  ∃ oe vs T oT ts, h.get? e = some oe ∧ oe.cls = cls ∧ oe.dict = dct ∧ oe.data = .fields vs ∧ vs[1]? = some (.ref T) ∧ base.get? T = none ∧ T ≠ e ∧ h.get? T = some oT ∧ oT.data = .fields ts ∧ ts[3]? = some fl
section
variable {M : Model} {A : Around} {E : Value → Shared → Prop} {s : Shared} {base : Heap} {env : Env} {outer : List Env} {L e : Addr} {cls : Value} {dct : Option Addr} {Q : Unit → Shared → Prop}
theorem entryD {oe : Obj} {vs : Array Value} {head : Value} {hadNext : Bool} (hfr : A.frames = some (env :: outer)) (hl : s.heap.FunFrames base (env :: outer)) (hf : env.frame = some L)
    (he : s.heap.get? e = some oe) (hkb : base.StaysIn s.heap) (hen : base.get? e = none) (hd : oe.data = .fields vs) (hsz : 1 < vs.size)
    (h : ∀ h', base.StaysIn h' → h'.FunFrames base (env :: outer) → TracedD h' base e oe.cls oe.dict (rawInt L) → s.heap.UpToSlots h' → Q () { s with heap := h' }) :
    wpAny M A (do let a ← frameOf env; let pl ← entryPlaceOf L hadNext; let b ← EntryCells.newEntry head a .none (rawInt L) .none pl; setField (.ref e) 1 b) Q E s := by
  have hene : e ∉ (env :: outer).filterMap (·.frame) := fun hm => by
    obtain ⟨_, o, ho, hnf⟩ := hl.mem hm
    rw [he] at ho
    cases ho
    exact hnf vs hd
  refine wpAny_bind (wpAny_frameOf_fun hfr hl hf fun h₁ hs₁ => wpAny_bind (wpAny_entryPlaceOf fun pl hpl => ?_))
  unfold EntryCells.newEntry newFields
  refine wpAny_bind (wpAny_newObj_type ?_ (hpl.sizeOk5 _ _ _ _ _))
  have hts : ([head, .ref L, .none, rawInt L, .none] ++ (if pl.isEmpty then List.replicate 6 Value.none else pl)).toArray[3]? = some (rawInt L) := by
    first | (simp; done) | (rcases hpl with rfl | ⟨_, _, _, _, _, _, _, rfl⟩ <;> simp)
  generalize hG : ([head, .ref L, .none, rawInt L, .none] ++ (if pl.isEmpty then List.replicate 6 Value.none else pl)).toArray = ts at hts ⊢
  have he₁ : h₁.get? e = some oe := (hs₁.2.1 e hene).trans he
  have kb₁ : base.StaysIn h₁ := fun b o hbo => (hs₁.2.1 b fun hm => by rw [(hl.mem hm).1] at hbo; cases hbo).trans (hkb b o hbo)
  have he₂ := Heap.get?_push_of_some { cls := .type "traceback", dict := none, data := .fields ts } he₁
  have hTe : h₁.objs.size ≠ e := Nat.ne_of_gt (Heap.lt_size he₁)
  have hd₃ := Obj.data_mapFields hd (·.setIfInBounds 1 (Value.ref h₁.objs.size))
  have keep : ∀ b o, b ≠ e → h₁.get? b = some o → ((h₁.push { cls := .type "traceback", dict := none, data := .fields ts }).update e (Obj.mapFields (·.setIfInBounds 1 (Value.ref h₁.objs.size)))).get? b = some o := fun b o hb e' => by
    rw [Heap.get?_update_other _ _ (Ne.symm hb)]
    exact Heap.get?_push_of_some _ e'
  have noRec : ∀ b o, s.heap.get? b = some o → (∀ vs, o.data ≠ .fields vs) → b ≠ e := fun b o hb hnf q => by
    rw [q, he] at hb
    cases hb
    exact hnf vs hd
  refine wpAny_setField he₂ hd hsz (h _ (fun b o hbo => keep b o (fun q => by rw [q, hen] at hbo; cases hbo) (kb₁ b o hbo)) (hl.of_keeps fun b o hb hnf => ?_) ?_ fun b o hb hnf => ?_)
  · obtain ⟨sl, hs⟩ := hs₁.2.2 b o hb
    exact ⟨_, keep b _ (noRec b o hb hnf) hs, rfl⟩
  · refine ⟨_, _, h₁.objs.size, { cls := .type "traceback", dict := none, data := .fields ts }, ts, Heap.get?_update_self _ he₂ (Obj.isFreed_of_fields hd₃), Obj.cls_mapFields _ _, dict_mapFields _ _, hd₃, by simp [hsz], kb₁.fresh, hTe, ?_, rfl, hts⟩
    rw [Heap.get?_update_other _ _ (Ne.symm hTe)]
    exact Heap.get?_push_size h₁ rfl
  · obtain ⟨sl, hs⟩ := hs₁.2.2 b o hb
    exact ⟨sl, keep b _ (noRec b o hb hnf) hs⟩
theorem note_firstD {oe : Obj} {vs : Array Value} (hfr : A.frames = some (env :: outer)) (hl : s.heap.FunFrames base (env :: outer)) (hf : env.frame = some L)
    (he : s.heap.get? e = some oe) (hkb : base.StaysIn s.heap) (hen : base.get? e = none) (hd : oe.data = .fields vs) (h1 : vs[1]? = some .none)
    (h : ∀ h', base.StaysIn h' → h'.FunFrames base (env :: outer) → TracedD h' base e oe.cls oe.dict (rawInt L) → s.heap.UpToSlots h' → Q () { s with heap := h' }) : wpAny M A (noteFrame (.ref e) env) Q E s := by
  unfold noteFrame
  simp only [hf]
  refine wpAny_bind (wpAny_field he hd h1 ?_)
  rw [if_neg (by decide)]
  exact entryD hfr hl hf he hkb hen hd (Array.getElem?_eq_some_iff.mp h1).1 h
theorem flightD {l : List Env} {fl : Value} (hkb : base.StaysIn s.heap) (hl : s.heap.FunFrames base l) (ht : TracedD s.heap base e cls dct fl)
    (h : ∀ h', base.StaysIn h' → h'.FunFrames base l → TracedD h' base e cls dct .none → s.heap.UpToSlots h' → Q () { s with heap := h' }) : wpAny M A (setFlight (.ref e) none) Q E s := by
  obtain ⟨oe, vs, T, oT, ts, he, hc, hdt, hd, h1, hnT, hTe, hT, hdT, h3⟩ := ht
  have hsz : 3 < ts.size := (Array.getElem?_eq_some_iff.mp h3).1
  have other : ∀ b, b ≠ T → (s.heap.update T (Obj.mapFields (·.setIfInBounds 3 ((none : Option Addr).elim Value.none fun f => rawInt f)))).get? b = s.heap.get? b := fun b hb => Heap.get?_update_other _ _ (Ne.symm hb)
  have noRec : ∀ b o, s.heap.get? b = some o → (∀ vs, o.data ≠ .fields vs) → b ≠ T := fun b o hb hnf q => by
    rw [q, hT] at hb
    cases hb
    exact hnf ts hdT
  unfold setFlight
  refine wpAny_bind (wpAny_field he hd h1 ?_)
  rw [if_pos (show (Value.ref T != Value.none) = true from by simp)]
  refine wpAny_setField hT hdT hsz (h _ (fun b o hbo => (other b fun q => by rw [q, hnT] at hbo; cases hbo).trans (hkb b o hbo)) (hl.of_keeps fun b o hb hnf => ⟨o, (other b (noRec b o hb hnf)).trans hb, rfl⟩) ?_
    fun b o hb hnf => ⟨o.slots, (other b (noRec b o hb hnf)).trans hb⟩)
  exact ⟨oe, vs, T, _, _, (other e (Ne.symm hTe)).trans he, hc, hdt, hd, h1, hnT, hTe, Heap.get?_update_self _ hT (Obj.isFreed_of_fields (Obj.data_mapFields hdT _)), Obj.data_mapFields hdT _, by simp [hsz]⟩
theorem note_onD (hfr : A.frames = some (env :: outer)) (hl : s.heap.FunFrames base (env :: outer)) (hf : env.frame = some L) (ht : TracedD s.heap base e cls dct .none) (hkb : base.StaysIn s.heap) (hen : base.get? e = none)
    (h : ∀ h', base.StaysIn h' → h'.FunFrames base (env :: outer) → TracedD h' base e cls dct (rawInt L) → s.heap.UpToSlots h' → Q () { s with heap := h' }) : wpAny M A (noteFrame (.ref e) env) Q E s := by
  obtain ⟨oe, vs, T, oT, ts, he, rfl, rfl, hd, h1, hnT, hTe, hT, hdT, h3⟩ := ht
  unfold noteFrame
  simp only [hf]
  refine wpAny_bind (wpAny_field he hd h1 ?_)
  rw [if_pos (show (Value.ref T != Value.none) = true from by simp)]
  refine wpAny_bind (wpAny_field hT hdT h3 ?_)
  rw [if_neg (show ¬ ((Value.none == rawInt L) = true) from by simp [rawInt])]
  refine wpAny_bind (wpAny_setField hT hdT (Array.getElem?_eq_some_iff.mp h3).1 ?_)
  have other : ∀ b, b ≠ T → (s.heap.update T (Obj.mapFields (·.setIfInBounds 3 Value.none))).get? b = s.heap.get? b := fun b hb => Heap.get?_update_other _ _ (Ne.symm hb)
  have noRec : ∀ b o, s.heap.get? b = some o → (∀ vs, o.data ≠ .fields vs) → b ≠ T := fun b o hb hnf q => by
    rw [q, hT] at hb
    cases hb
    exact hnf ts hdT
  have up : s.heap.UpToSlots (s.heap.update T (Obj.mapFields (·.setIfInBounds 3 Value.none))) := fun b o hb hnf => ⟨o.slots, (other b (noRec b o hb hnf)).trans hb⟩
  exact entryD hfr (hl.of_keeps fun b o hb hnf => ⟨o, (other b (noRec b o hb hnf)).trans hb, rfl⟩) hf ((other e (Ne.symm hTe)).trans he) (fun b o hbo => (other b fun q => by rw [q, hnT] at hbo; cases hbo).trans (hkb b o hbo)) hen hd
    (Array.getElem?_eq_some_iff.mp h1).1 fun h' k1 k2 k3 k4 => h h' k1 k2 k3 (up.trans k4)
end
end
section
def RaisedD (base G : Heap) (l : List Env) (e D C : Addr) (news : List (Addr × Obj)) (h : Heap) : Prop :=
  ∃ B, base.StaysIn B ∧ (∀ b o, G.get? b = some o → b ∉ l.filterMap (·.frame) → B.get? b = some o) ∧ (∀ q ∈ news, B.get? q.1 = some q.2 ∧ G.get? q.1 = none) ∧ G.get? e = none ∧ B.StaysIn h ∧ B.get? e = none ∧ h.FunFrames B l ∧ TracedD h B e (.ref C) (some D) .none
section
variable {M : Model} {A : Around} {E : Value → Shared → Prop} {s' : Shared} {base g : Heap} {outer : List Env} {L a e D C : Addr} {m : Str → Option Value} {name : Str} {scope : Scope} {cd : Value} {Q : Unit → Shared → Prop} {news : List (Addr × Obj)}
theorem leave_raiseD {vs : Array Value} {sl : Array (Option Value)} (K : Below A base outer g) (F : Fr g L s'.heap m) (N : News g L s'.heap ((e, ⟨.ref C, some D, .fields vs, sl⟩) :: news)) (h1 : vs[1]? = some .none) (hne : ∀ p ∈ news, p.1 ≠ e)
    (hQ : ∀ h', RaisedD base g outer e D C news h' → g.UpToSlots h' → Q () { s' with heap := h' }) (hk : scope.kind = .function := by rfl) :
    wpAny M (A.deeper (envOf name scope L a cd)) (leaving (envOf name scope L a cd) (.ref e)) Q E s' := by
  have K' := K.push (name := name) (a := a) (cd := cd) F hk
  have he := (N _ (.head _)).1
  have hg := (N _ (.head _)).2.2
  have hbe : base.get? e = none := fresh_of_stays K.stays hg
  have hin : ∀ env ∈ (envOf name scope L a cd :: outer), ∀ b, env.frame = some b → b ∈ e :: (envOf name scope L a cd :: outer).filterMap (·.frame) := fun env he b hb => .tail _ (List.mem_filterMap.mpr ⟨env, he, hb⟩)
  have st : base.StaysIn (hideAll s'.heap (e :: (envOf name scope L a cd :: outer).filterMap (·.frame))) := fun b o q => hideAll_get _ (K'.stays b o q) fun hm => by
    rcases List.mem_cons.mp hm with rfl | hm
    · rw [hbe] at q; cases q
    · rw [(K'.frames.mem hm).1] at q; cases q
  have hl : ∀ q ∈ news, (hideAll s'.heap (e :: (envOf name scope L a cd :: outer).filterMap (·.frame))).get? q.1 = some q.2 ∧ g.get? q.1 = none := fun q hq => by
    have z := N q (.tail _ hq)
    refine ⟨hideAll_get _ z.1 fun hm => ?_, z.2.2⟩
    rcases List.mem_cons.mp hm with q' | hm
    · exact hne q hq q'
    obtain ⟨env, he, hf⟩ := List.mem_filterMap.mp hm
    rcases List.mem_cons.mp he with rfl | he
    · exact z.2.1 (Option.some.inj hf).symm
    · obtain ⟨o, ho, _⟩ := (K.frames.mem (List.mem_filterMap.mpr ⟨env, he, hf⟩)).2
      rw [z.2.2] at ho; cases ho
  have sg : ∀ b o, g.get? b = some o → b ∉ outer.filterMap (·.frame) → (hideAll s'.heap (e :: (envOf name scope L a cd :: outer).filterMap (·.frame))).get? b = some o := fun b o q nm => hideAll_get _ (F.keep b o q) fun hm => by
    rcases List.mem_cons.mp hm with z | hm
    · rw [z, hg] at q; cases q
    · rcases kts_mem hm with z | z
      · rw [z, kts_self F] at q; cases q
      · exact nm z
  have stB : Heap.StaysIn (hideAll s'.heap (e :: (envOf name scope L a cd :: outer).filterMap (·.frame))) s'.heap := fun b o q => of_hideAll _ q
  unfold leaving
  refine wpAny_bind (note_firstD K'.stack (funFrames_hide K'.frames hin) rfl he stB (hideAll_none _ (.head _)) rfl h1 fun h₁ st1 fr1 tr1 up1 => ?_)
  refine flightD st1 fr1 tr1 fun h₂ st2 fr2 tr2 up2 => ?_
  exact hQ h₂ ⟨_, st, sg, hl, hg, st2, hideAll_none _ (.head _), fr2.2.2, tr2⟩ ((Heap.UpToSlots.of_keeps F.keep).trans (up1.trans up2))
end
section
variable {prog : Program} {w : World} {A₀ : Around} {E : Value → Shared → Prop} {s' : Shared} {base g G : Heap} {outer : List Env} {L a e D C : Addr} {m : Str → Option Value} {name : Str} {scope : Scope} {cd : Value}
  {n : Str} {b₀ : Stmt} {suite : List Stmt} {pos np : Pos} {rest : List ExceptHandler} {Q : Flow → Shared → Prop} {news : List (Addr × Obj)} {KF : Frag}
  {p : Program} {loose : List Str} {mean : ExcName → Option Value} {mg mb : Str → Option Value} {x : Str}
  {nm q : Str} {N : Addr} {bs bm : List Value} {hdct : Bool} {sn : List Str} {sub : List Value} {ab : Bool} {col : Option Bool} {dd : Option Addr} {k0 k1 k2 k3 k5 : Option Value} {newId : String}
theorem caught_D (R : RaisedD base G (envOf name scope L a cd :: outer) e D C news s'.heap) (F : Fr g L G m) (K : Below A₀ base outer g) (hsm : G.UpToSlots s'.heap)
    (X : KF.In g) (T : Top p loose mean mg mb g) (XB : KF.In base) (TB : Top p loose mean mg mb base) (ex : nsIn KF mainGlobals x = some (some (.ref C))) (hC : KF.lookup C = some (excClassObj nm q C N bs bm hdct sn sub ab col dd k0 k1 k2 k3 k5 newId)) (hbase : bm.contains (.type "BaseException") = true)
    (k : ∀ h' g' vs sl tk, KtsTurn (outer.filterMap (·.frame)) g g' → Fr g' L h' (fun y => if y = n then some (.ref e) else m y) → News g' L h' ((e, ⟨.ref C, some D, .fields vs, sl⟩) :: news) → Below A₀ base outer g' → KF.In g' → Top p loose mean mg mb g' →
      wpAny (model prog w) ((A₀.deeper (envOf name scope L a cd)).mark (some (.ref e))) (execs (b₀ :: suite) (envOf name scope L a cd))
        (fun f s₄ => wpAny (model prog w) (A₀.deeper (envOf name scope L a cd)) (do bindName (envOf name scope L a cd) n .none; unbindBehindTheSuite (envOf name scope L a cd) n pos) (fun _ s₅ => Q f s₅) E s₄)
        (AsSuiteRaised (model prog w) ((A₀.deeper (envOf name scope L a cd)).mark (some (.ref e))) (envOf name scope L a cd) n pos (notedBy (model prog w) ((A₀.deeper (envOf name scope L a cd)).mark (some (.ref e))) (envOf name scope L a cd) (cameBackBy (model prog w) (A₀.deeper (envOf name scope L a cd)) (envOf name scope L a cd) E)))
        { s' with heap := h', toks := tk })
    (hk : scope.kind = .function := by rfl) (hlo : (envOf name scope L a cd).kindOf n = some .local := by rfl) (hx : (envOf name scope L a cd).kindOf x = some .globalImplicit := by rfl) (hd : (x == ("__debug__" : Str)) = false := by decide) :
    wpAny (model prog w) (A₀.deeper (envOf name scope L a cd)) (noteFrame (.ref e) (envOf name scope L a cd))
      (fun _ s₂ => wpAny (model prog w) (A₀.deeper (envOf name scope L a cd)) (setFlight (.ref e) none) (fun _ s₃ =>
        wpAny (model prog w) (A₀.deeper (envOf name scope L a cd)) (handleBy (.ref e) (envOf name scope L a cd) (.ExceptHandler (some (.Name x np)) (some n) (b₀ :: suite) pos :: rest)) Q E s₃) E s₂) E s' := by
  obtain ⟨B, hB, hBG, hl, hge, st, hen, fr, tr⟩ := R
  have hL : B.get? L = none := by
    obtain ⟨_, ⟨L', _, hf, hn', _⟩, _⟩ := fr
    obtain rfl : L = L' := Option.some.inj hf
    exact hn'
  refine note_onD (Around.frames_deeper K.stack) fr rfl tr st hen fun h₄ st4 fr4 tr4 up4 => ?_
  refine flightD st4 fr4 tr4 fun h₅ st5 fr5 tr5 up5 => ?_
  have up5' := hsm.trans (up4.trans up5)
  obtain ⟨g₅, T₅, F₅, K₅⟩ := kts_ground K F hBG st5 up5'
  obtain ⟨oe5, _, _, _, _, he5, hc5, _⟩ := id tr5
  refine wpAny_handleBy_cons (codeAny_handlers_test (name_K F₅ (XB.keeps K₅.stays) (topRead_of (TB.keeps K₅.stays)) ex ?_ hk hx hd)) (by intro q; cases q)
  refine wpAny_excMatches_sub_self (((XB.keeps K₅.stays).keeps F₅.keep) _ _ hC) he5 hc5 hbase (codeAny_handlers_suite_as ?_)
  refine flightD st5 fr5 tr5 fun h₆ st6 fr6 tr6 up6 => ?_
  obtain ⟨g₆, T₆, F₆, K₆⟩ := kts_ground K F hBG st6 (up5'.trans up6)
  obtain ⟨⟨c6, d6, da6, sl6⟩, vs6, _, _, _, he6, hc6, hd6, hv6, _⟩ := id tr6
  dsimp only at hc6 hd6 hv6
  subst hc6 hd6 hv6
  have Nl : News g₆ L h₆ news := fun q hq => ⟨st6 _ _ (hl q hq).1, (fun z => by have := (hl q hq).1; rw [z, hL] at this; cases this), T₆.none_ _ (kts_none F.keep (hl q hq).2)⟩
  have N₆ := News.more F₆ Nl he6 (fun es n q => by cases q) (T₆.none_ _ (kts_none F.keep hge))
  refine stN F₆ N₆ (fun h₇ F₇ N₇ => ?_) hk hlo
  exact k h₇ g₆ _ _ _ T₆ F₇ N₇ K₆ (XB.keeps K₆.stays) (TB.keeps K₆.stays)
end
section
variable {prog : Program} {w : World} {A₀ A : Around} {s : Shared} {base h₀ : Heap} {L : Addr} {m : Str → Option Value} {news : List (Addr × Obj)} {K : Frag} {p : Program} {loose : List Str} {mean : ExcName → Option Value} {mg mb : Str → Option Value}
    {R : Result → Shared → Prop} {name qual : Str} {params : Arguments} {body : List Stmt} {scope : Scope} {dV kV doc pm cdv ct oc : Value} {an od : Option Addr} {osl : Array (Option Value)} {f : Addr} {args : Args} {binds : List (Str × Value)} {env : Env}
/-- a def called by the outermost frame, whatever that frame's cells, in which an exception may be caught -/
theorem code_defT (B : Below A₀ base [] h₀) (F : Fr h₀ L s.heap m) (X₀ : K.In h₀) (N : News h₀ L s.heap news) (T : Top p loose mean mg mb h₀) (hA : A.frames = some [env]) (hf : env.frame = some L) (hck : env.scope.kind = .function)
    (ho : K.lookup f = some ⟨oc, od, .func (fnOf name qual params body scope dV kV doc pm an cdv ct), osl⟩) (hcd : codeIn K cdv qual = true) (hroom : A.depth < recursionLimit)
    (hbind : BindsTo s (fnOf name qual params body scope dV kV doc pm an cdv ct) args binds) (hloc : ∀ y ∈ binds, scope.names.lookup y.1 = some .local)
    (h : ∀ g L' h₁, Fr h₀ L g m → Fr g L' h₁ (fun y => binds.reverse.lookup y) → News g L' h₁ news → Below A base [env] g → K.In g → Top p loose mean mg mb g →
      wpAny (model prog w) (A.deeper (envOf qual scope L' f cdv)) (execs body (envOf qual scope L' f cdv))
        (fun fl s' => LeaveS0 [L] h₀ L m g R (match fl with | .ret v => v | _ => .none) s')
        (fun e s' => wpAny (model prog w) (A.deeper (envOf qual scope L' f cdv)) (leaving (envOf qual scope L' f cdv) e) (fun _ s'' => R (.error e) s'') (fun e' s'' => R (.error e') s'') s')
        { s with heap := h₁, toks := s.toks + binds.length })
    (hco : scope.isCoroutine = false) (hgen : scope.isGenerator = false) (hk : scope.kind = .function)
    (hcell : ∀ x ∈ scope.names, x.2 ≠ .cell) : codeAny (model prog w) A (.call (.ref f) args) R s := by
  have X := X₀.keeps F.keep
  refine codeAny_call_def (fd := fnOf name qual params body scope dV kV doc pm an cdv ct) (body := body) (binds := binds) hroom (X _ _ ho) rfl (T.nolimit.keeps F.keep) (codeRec_of X hcd) rfl hbind hcell hloc (fun h₁ hns hk₁ => ?_) hco hgen hk
  have nm : ∀ b o, h₀.get? b = some o → b ∉ news.map (·.1) := fun b o e q => by
    obtain ⟨p, hp, rfl⟩ := List.mem_map.mp q
    rw [(N p hp).2.2] at e; cases e
  have st : h₀.StaysIn (hideAll s.heap (news.map (·.1))) := fun b o e => hideAll_get _ (F.keep b o e) (nm b o e)
  obtain ⟨oL, es, ep, hL, hLd, hLk, hLf⟩ := F.ns
  have nL : L ∉ news.map (·.1) := fun q => by
    obtain ⟨p, hp, e⟩ := List.mem_map.mp q
    exact (N p hp).2.1 e
  have hLg := hideAll_get (news.map (·.1)) hL nL
  have nL₀ : h₀.get? L = none := kts_self F
  have B₂ : Below A base [env] (hideAll s.heap (news.map (·.1))) := ⟨hA, fun b o e => st b o (B.stays b o e), ⟨by rw [hck]; decide, ⟨L, oL, hf, fresh_of_stays B.stays nL₀, hLg, fun vs q => by rw [hLd] at q; cases q⟩, trivial⟩⟩
  refine wpAny_mono (h _ s.heap.objs.size h₁ ⟨⟨oL, es, ep, hLg, hLd, hLk, hLf⟩, st, F.above⟩ ⟨hns, fun b o e => hk₁ b o (of_hideAll _ e), Nat.le_of_eq (hideAll_size _ _)⟩
    (fun p hp => ⟨hk₁ _ _ (N p hp).1, Nat.ne_of_lt (Heap.lt_size (N p hp).1), hideAll_none _ (List.mem_map_of_mem hp)⟩) B₂ (X₀.keeps st) (T.keeps st)) (fun fl s' hl => ?_) fun _ _ y => y
  obtain ⟨g', L', m', news', T', F', N', k⟩ := hl
  obtain ⟨sl, hs⟩ := T'.up hLg
  refine k ⟨⟨_, es, ep, F'.keep _ _ hs, hLd, hLk, hLf⟩, fun b o e => F'.keep b o (T'.other b o (st b o e) (fun q => by rw [List.mem_singleton.mp q, nL₀] at e; cases e)), F.above⟩ fun p hp => ⟨(N' p hp).1, fun q => ?_, ?_⟩
  · have := (N' p hp).2.2; rw [q, hs] at this; cases this
  · cases q : h₀.get? p.1 with
    | none => rfl
    | some o =>
      obtain ⟨sl', hs'⟩ := T'.up (st _ _ q)
      have := (N' p hp).2.2
      rw [hs'] at this
      cases this
end
end
section
section
variable {M : Model} {A : Around} {E : Value → Shared → Prop} {s : Shared} {env : Env}
variable {nm q : Str} {C N : Addr} {bs bm : List Value} {hdct : Bool} {sn : List Str} {sub : List Value} {ab : Bool} {col : Option Bool} {dd : Option Addr} {k0 k1 k2 k3 k5 : Option Value} {newId : String}
theorem Raise_own {ex : PySem.Expr} {pos : Pos} {Q : Flow → Shared → Prop} (hh : A.handled = none) (hbase : bm.contains (.type "BaseException") = true)
    (h : wpAny M A (eval ex env) (fun v s₁ => ∃ e t D, v = .ref e ∧ s₁.heap.get? C = some (excClassObj nm q C N bs bm hdct sn sub ab col dd k0 k1 k2 k3 k5 newId) ∧
      s₁.heap.get? e = some ⟨.ref C, some D, .fields #[.ref t, .none, .none, .none, .bool false, .none], #[]⟩ ∧ E (.ref e) s₁) E s) :
    wpAny M A (exec (.Raise (some ex) none pos) env) Q E s := by
  have hcB : (Value.ref C :: bm).contains (.type "BaseException") = true := by rw [List.contains_cons, hbase, Bool.or_true]
  show wpAny M A (do standAt pos; raiseStmt env (some (do let v ← eval ex env; standAt pos; pure v)) none) Q E s
  refine wpAny_bind (wpAny_standAt ?_)
  unfold raiseStmt
  dsimp only
  refine wpAny_bind (wpAny_bind (wpAny_mono h (fun v s₁ h₁ => wpAny_bind (wpAny_standAt (wpAny_pure ?_))) fun _ _ x => x))
  obtain ⟨e, t, D, rfl, hC, he, hE⟩ := h₁
  obtain ⟨hp, g, d, tk, os⟩ := s₁
  repeat (first | with_reducible refine wpAny_loadPart_at he ?_ | with_reducible refine wpAny_loadPart_at hC ?_ | (with_reducible refine wpAny_isSubtype_exc hC ?_; rw [hcB]) | wp_step)
  exact wpAny_raiseNew_none hh hE
end
section
variable {prog : Program} {w : World} {A : Around} {E : Value → Shared → Prop} {s : Shared} {K : Frag} {h₀ : Heap} {L : Addr} {m : Str → Option Value} {news : List (Addr × Obj)}
variable {nm q : Str} {C N fI : Addr} {bs bm : List Value} {hdct : Bool} {sn : List Str} {sub : List Value} {ab : Bool} {col : Option Bool} {dd : Option Addr} {k0 k1 k2 k3 k5 : Option Value}
theorem exc_new {rest : List Value} {Q : Value → Shared → Prop} (F : Fr h₀ L s.heap m) (X₀ : K.In h₀) (Nw : News h₀ L s.heap news) (hC : K.lookup C = some (excClassObj nm q C N bs bm hdct sn sub ab col dd k0 k1 k2 k3 k5 "Exception.__new__"))
    (ht : tailIn K excBm bm = true) (hi : findIn K (.ref C) "__init__" = some (some (.ref fI))) (hf : typeIn K (.ref fI) = some (.type "function")) (hrest : rest.length ≤ 1000)
    (hq : ∀ h' e t, Fr h₀ L h' m → News h₀ L h' ((e, ⟨.ref C, none, .fields #[.ref t, .none, .none, .none, .bool false, .none], #[]⟩) :: news) → (∀ p ∈ news, p.1 ≠ e) →
      wpAny (model prog w) (A.under (.builtin "type.__call__" ⟨.ref C :: rest, []⟩)) (call (.ref fI) (.ref e :: rest)) (fun r s' => r = .none ∧ Q (.ref e) s') E { s with heap := h' }) :
    wpAny (model prog w) A (call (.ref C) rest) Q E s := by
  obtain ⟨h, g, d, t, os⟩ := s
  have X := X₀.keeps F.keep
  refine exc_call X (tail_of_in X ht) (X _ _ hC) hi hf (fun h' e hm => ?_) (by rw [sizeLine_eq]; omega)
  obtain ⟨t, he, _, _⟩ := hm.there
  have F' := F.grownK hm.keeps
  have fresh : h₀.get? e = none := by
    cases q : h₀.get? e with
    | none => rfl
    | some o => have := F.keep _ _ q; rw [hm.new] at this; cases this
  exact hq h' e t F' (News.more F' (Nw.grown hm.keeps) he (fun es n q => by cases q) fresh) (fun p hp q => by have := (Nw p hp).1; rw [q, hm.new] at this; cases this)
end
def RaisableK (K : Frag) (C : Addr) (E : Value → Shared → Prop) (v : Value) (s₁ : Shared) : Prop :=
  ∃ e t D, v = .ref e ∧ K.In s₁.heap ∧ s₁.heap.get? e = some ⟨.ref C, some D, .fields #[.ref t, .none, .none, .none, .bool false, .none], #[]⟩ ∧ E (.ref e) s₁
theorem Raise_K {M : Model} {A : Around} {E : Value → Shared → Prop} {s : Shared} {env : Env} {K : Frag} {nm q : Str} {C N : Addr} {bs bm : List Value} {hdct : Bool} {sn : List Str} {sub : List Value} {ab : Bool} {col : Option Bool} {dd : Option Addr} {k0 k1 k2 k3 k5 : Option Value} {newId : String}
    {ex : PySem.Expr} {pos : Pos} {Q : Flow → Shared → Prop} {h₀ : Heap} (_ : K.In h₀) (hC : K.lookup C = some (excClassObj nm q C N bs bm hdct sn sub ab col dd k0 k1 k2 k3 k5 newId)) (hbase : bm.contains (.type "BaseException") = true) (hh : A.handled = none)
    (h : wpAny M A (eval ex env) (RaisableK K C E) E s) : wpAny M A (exec (.Raise (some ex) none pos) env) Q E s :=
  Raise_own hh hbase (wpAny_mono h (fun v s₁ ⟨e, t, D, h1, h2, h3, h4⟩ => ⟨e, t, D, h1, h2 _ _ hC, h3, h4⟩) fun _ _ x => x)
theorem get_excK {prog : Program} {w : World} {A : Around} {E : Value → Shared → Prop} {s : Shared} {K : Frag} {x C dx L : Addr} {h₀ : Heap} {m : Str → Option Value} {news : List (Addr × Obj)} {vs : Array Value} {sl : Array (Option Value)} {es : List DictEntry} {n : Nat} {name : Str} {v : Value} {expr : Bool} {Q : Value → Shared → Prop}
    (F : Fr h₀ L s.heap m) (X₀ : K.In h₀) (N : News h₀ L s.heap news) (h1 : (x, (⟨.ref C, some dx, .fields vs, sl⟩ : Obj)) ∈ news) (h2 : (dx, dictOf es n) ∈ news)
    (hga : findIn K (.ref C) "__getattribute__" = some (some (.builtin "BaseException.__getattribute__"))) (hgg : findIn K (.ref C) "__getattr__" = some none) (hm : mroIn K C (.type "BaseException") = some true)
    (hh : hasDictIn K C = true) (ha : findIn K (.ref C) name = some none) (hl : getL name es = some (some v)) (hv : handedIn v = true) (h : Q v { s with toks := s.toks + 1 }) :
    wpAny (model prog w) A (getAttr (.ref x) name expr) Q E s :=
  get_exc (X₀.keeps F.keep) ⟨(N _ h1).1, rfl, rfl, (N _ h2).1⟩ hga hgg hm (findObj_own (od := dictOf es n) hh ha rfl ((lookIn_dict name es n).trans hl)) hv h
end
section
local macro_rules | `(tactic| walk_at "call ref") => `(tactic| ((with_reducible show wpAny _ _ (call (Value.ref 103) _ _) _ _ _); k_dflt (refine' length_spec (by k_asm) (by k_asm) (by k_asm) (by k_asm) (by k_asm) (by first | exact rfl | assumption) (by ktr_room) (by ktr_units) (by k_mem) (by k_mem) (by k_mem) (by omega) ?_;  k_whole); walk_at "fin"))
local macro_rules | `(tactic| walk_at "exec Raise some none") => `(tactic| (k_here; k_dflt (refine' Raise_K (C := 51) ?hX ?hC ?hb ?hh ?_; (case hX => k_asm); (case hC => k_is); (case hb => decide +kernel); (case hh => rfl); k_whole)))
local macro_rules | `(tactic| walk_at "call ref") => `(tactic| ((with_reducible show wpAny _ _ (call (Value.ref 51) [_]) _ _ _); k_dflt (refine' exc_new ?F ?X ?N ?C ?t ?i ?f ?r ?_; (case F => k_asm); (case X => k_asm); (case N => k_asm); (case C => k_is); (case i => k_is); (case f => k_is); (case t => kernel_rfl); (case r => exact Nat.le_of_ble_eq_true rfl); k_whole); intro h9 e9 t9 F9 N9 ne9))
local macro_rules | `(tactic| walk_at "setAttr ref") => `(tactic| (k_here; k_dflt (refine' exc_set (C := 51) (C' := 31) ?F ?X ?N ?hap ?hs ?hc ?hm ?hd ?ha ?_; (case F => k_asm); (case X => k_asm); (case N => k_asm); (case hap => assumption); (case hs => k_is); (case hc => k_is); (case hm => exact rfl); (case hd => exact rfl); (case ha => k_is); k_whole); intro D9 h9 F9 N9 lt9 lx9))
theorem news_swap {h₀ h : Heap} {L : Addr} {a b : Addr × Obj} {r : List (Addr × Obj)} (N : News h₀ L h (a :: b :: r)) : News h₀ L h (b :: a :: r) := fun p hp => N p (by
  rcases List.mem_cons.mp hp with rfl | hp
  · exact .tail _ (.head _)
  rcases List.mem_cons.mp hp with rfl | hp
  · exact .head _
  · exact .tail _ (.tail _ hp))
theorem ne_cons {e : Addr} {a : Addr × Obj} {r : List (Addr × Obj)} (h : e < a.1) (k : ∀ p ∈ r, p.1 ≠ e) : ∀ p ∈ a :: r, p.1 ≠ e := fun p hp => by
  rcases List.mem_cons.mp hp with rfl | hp
  · exact Nat.ne_of_gt h
  · exact k p hp
local macro_rules | `(tactic| walk_at "getAttr ref") => `(tactic| (k_here; (with_reducible show wpAny _ _ (getAttr (Value.ref _) (PySem.Str.ofString "message") _) _ _ _); k_dflt (refine' get_excK (C := 51) ?F ?X ?N ?h1 ?h2 ?a ?b ?c ?d ?e ?l ?v ?_; (case F => k_asm); (case X => k_asm); (case N => k_asm); (case h1 => exact .head _); (case h2 => exact .tail _ (.head _)); (case a => k_is); (case b => k_is); (case c => k_is); (case d => k_is); (case e => k_is); (case l => k_get); (case v => k_handed); k_whole)))
theorem told_bad {w : World} {p : Program} {loose : List Str} {mean : ExcName → Option Value} {mg mb : Str → Option Value}
    {dp un : Nat} {gd : Option (List Code)} {cn : Str} {cs : Scope} {a : Addr} {ccd : Value} {cl : List (Str × Addr)} {outer : List Env} {A₀ : Around} {base h₀ : Heap} {L : Addr} {m : Str → Option Value} {news : List (Addr × Obj)} {s : Shared} {Q E : Value → Shared → Prop} {l : Addr} {vs : List Value} {c : Nat} {lag df : Int} {ta tb : Tok}
    (B : Below A₀ base outer h₀) (F : Fr h₀ L s.heap m) (X : (frag.heap_1 w.params).In h₀) (N : News h₀ L s.heap news) (T : Top p loose mean mg mb h₀) (hk : cs.kind = .function) (hdp : dp + 60 < recursionLimit) (hun : un + 500 < cLine) (ho : outer = []) (XB : (frag.heap_1 w.params).In base) (TB : Top p loose mean mg mb base) (hl : (l, listOf vs.toArray c) ∈ news) (hbad : lag < 1 ∨ df < 1)
    (ret : ∀ t h' tk', Fr h₀ L h' m → News h₀ L h' news → Q (.str (Str.ofString "'lag' and 'differences' must be integers >= 1") t) { s with heap := h', toks := tk' }) :
    wpAny (model Challenge.pw_ov0077_01 w) (ktrTop dp un gd cn cs L a ccd cl outer) (call (.ref 529) [.ref l, .int lag ta, .int df tb]) Q E s := by
  subst ho
  have kMk : KstMark := kstMark
  refine wpAny_call ?_
  k_dflt (refine' code_defT B F X N T rfl rfl hk ?k6 ?k7 ?k8 ?k9 ?kB ?_ ?c2 ?c3 ?c4 ?c5; (case k6 => k_is); (case k7 => k_is); (case k8 => k_room); (case k9 => first | exact BindsTo.of_eq rfl | exact binds_K (by k_in) rfl (by k_is) rfl rfl rfl); (case c5 => decide); (case kB => exact locs rfl); (case c2 => exact rfl); (case c3 => exact rfl); (case c4 => exact rfl); k_whole)
  intro g' L' h' FG' F' N' B' X' T'
  (try dsimp only)
  (try k_lift B')
  (try k_fold)
  k_steps
  all_goals (
    rename Fr _ _ _ _ => kF
    rename News _ _ _ _ => kN
    rename Frag.In _ _ => kX
    refine ⟨_, _, _, rfl, kX.keeps kF.keep, (kN _ (.tail _ (.head _))).1, ?_⟩
    k_steps
    refine leave_raiseD (by k_asm) kF (news_swap kN) rfl (ne_cons (by assumption) (by assumption)) (fun h8 R8 up8 => ?_)
    (try dsimp only)
    k_dflt (refine' caught_D R8 ?F ?K up8 ?X ?T XB TB ?e ?C ?b ?_; (case F => assumption); (case K => assumption); (case X => assumption); (case T => assumption); (case e => k_is); (case C => k_is); (case b => decide +kernel); k_whole)
    intro h6 g6 vs6 sl6 tk6 T6 F6 N6 B6 X6 P6
    (try dsimp only)
    (try k_lift B6)
    (try k_fold)
    k_steps
    rename News h₀ _ _ _ => kN2
    exact ret _ _ _ (by assumption) (fun p hp => kN2 p (.tail _ (.tail _ (.tail _ (.tail _ (.tail _ hp)))))))
end
section
theorem pebble_nat {w : World} {p : Program} {loose : List Str} {mean : ExcName → Option Value} {mg mb : Str → Option Value}
    {dp un : Nat} {gd : Option (List Code)} {cn : Str} {cs : Scope} {a : Addr} {ccd : Value} {cl : List (Str × Addr)} {outer : List Env} {A₀ : Around} {base h₀ : Heap} {L : Addr} {m : Str → Option Value} {news : List (Addr × Obj)} {s : Shared} {Q E : Value → Shared → Prop} {l : Addr} {vs : List Value} {ns : List Int} {c : Nat} {most : Int} {tm : Tok} {led : List Value → Nat → List (Addr × Obj)}
    (B : Below A₀ base outer h₀) (F : Fr h₀ L s.heap m) (X : (frag.heap_1 w.params).In h₀) (N : News h₀ L s.heap news) (T : Top p loose mean mg mb h₀) (hk : cs.kind = .function) (hdp : dp + 1 < recursionLimit) (hun : un + 8 < cLine) (U : ∀ vs' c', Upd l (listOf vs.toArray c) (listOf vs'.toArray c') news (led vs' c')) (hi : IntsAre vs ns) (hfit : ns.length < 2 ^ 20) (hm : 0 < most) (hm2 : most < 1000)
    (ret : ∀ (k : Nat) t vs' ns' c' h' tk', Within k most → IntsAre vs' ns' → ns'.length ≤ ns.length → Fr h₀ L h' m → News h₀ L h' (led vs' c') → Q (.int (k : Int) t) { s with heap := h', toks := tk' }) :
    wpAny (model Challenge.pw_ov0077_01 w) (ktrTop dp un gd cn cs L a ccd cl outer) (call (.ref 515) [.ref l, .int most tm]) Q E s :=
  pebble_spec B F X N T hk hdp hun U hi hfit hm hm2 fun k t vs' ns' c' h' tk' h0 h1 h2 h3 F' N' => by
    obtain ⟨n, rfl⟩ := Int.eq_ofNat_of_zero_le h0
    exact ret n t vs' ns' c' h' tk' ⟨h0, h1⟩ h2 h3 F' N'
end
section
/-- an item as the model's data -/
def optD : Option Int → PyData
  | some k => .int k
  | Option.none => .none
theorem readsAll_items {h : Heap} {vs : List Value} {os : List (Option Int)} (hi : ItemsAre vs os) : ReadsAll h vs (os.map optD) [] := by
  induction hi with
  | nil => exact .nil
  | int k t _ ih =>
    have := ReadsAll.cons (Reads.int (h := h) k t) ih
    rw [List.nil_append] at this
    exact this
  | none _ ih =>
    have := ReadsAll.cons (Reads.none (h := h)) ih
    rw [List.nil_append] at this
    exact this
theorem reads_items {h : Heap} {a : Addr} {vs : List Value} {os : List (Option Int)} {c : Nat} (hl : h.get? a = some (listOf vs.toArray c)) (hi : ItemsAre vs os) : Reads h (.ref a) (.list (os.map optD)) [a] :=
  Reads.list hl rfl rfl (by simpa using readsAll_items hi)
theorem canLay_items : ∀ os : List (Option Int), PyData.canLayAll0 (os.map optD) = true
  | [] => by simp [PyData.canLayAll0]
  | Option.none :: r => by simp [PyData.canLayAll0, PyData.canLay0, optD, canLay_items r]
  | some k :: r => by simp [PyData.canLayAll0, PyData.canLay0, optD, canLay_items r]
theorem depth_items : ∀ os : List (Option Int), PyData.depthAll (os.map optD) ≤ 1
  | [] => by simp [PyData.depthAll]
  | Option.none :: r => by
    have := depth_items r
    simp only [List.map_cons, PyData.depthAll, PyData.depth, optD]
    omega
  | some k :: r => by
    have := depth_items r
    simp only [List.map_cons, PyData.depthAll, PyData.depth, optD]
    omega
theorem shaped_items (os : List (Option Int)) : SeqAt.shaped (.list (os.map optD)) = true := by
  have h1 := depth_items os
  have h2 : PyData.depth (.list (os.map optD)) ≤ 64 := by simp only [PyData.depth]; omega
  show (PyData.canLay0 (.list (os.map optD)) && decide (PyData.depth (.list (os.map optD)) ≤ 64)) = true
  rw [Bool.and_eq_true]
  exact ⟨by simp only [PyData.canLay0]; exact canLay_items os, decide_eq_true h2⟩
theorem eqv_items : ∀ os ps : List (Option Int), PyData.eqvAll (os.map optD) (ps.map optD) = decide (os = ps)
  | [], [] => by simp [PyData.eqvAll]
  | [], _ :: _ => by simp [PyData.eqvAll]
  | _ :: _, [] => by simp [PyData.eqvAll]
  | a :: r, b :: q => by
    have ih := eqv_items r q
    rcases a with _ | x <;> rcases b with _ | y
    · simp [PyData.eqvAll, PyData.eqv, optD, ih]
    · simp [PyData.eqvAll, PyData.eqv, optD, ih]
    · simp [PyData.eqvAll, PyData.eqv, optD, ih]
    · simp only [List.map_cons, PyData.eqvAll, PyData.eqv, optD, ih]
      by_cases h : x = y <;> simp [h]
section
variable {prog : Program} {w : World} {A : Around} {E : Value → Shared → Prop} {s : Shared} {h₀ : Heap} {L : Addr} {m : Str → Option Value} {news : List (Addr × Obj)} {a b : Addr} {vs us : List Value} {os ps : List (Option Int)} {c1 c2 : Nat} {Q : Value → Shared → Prop}
theorem ne_items (N : News h₀ L s.heap news) (ha : (a, listOf vs.toArray c1) ∈ news) (hb : (b, listOf us.toArray c2) ∈ news) (hi : ItemsAre vs os) (hj : ItemsAre us ps) (hu : A.units + 64 < cLine)
    (h : Q (.bool (!decide (os = ps))) s) : wpAny (model prog w) A (compareOp .NotEq (.ref a) (.ref b)) Q E s := by
  refine ne_dataH (reads_items (N _ ha).1 hi) (reads_items (N _ hb).1 hj) (shaped_items os) (shaped_items ps) hu ?_
  simp only [PyData.eqv, eqv_items]
  exact h
theorem add_any (F : Fr h₀ L s.heap m) (N : News h₀ L s.heap news) (ha : (a, listOf vs.toArray c1) ∈ news) (hb : (b, listOf us.toArray c2) ∈ news) (hz : vs.length + us.length < 2 ^ 20)
    (h : ∀ D h', Fr h₀ L h' m → News h₀ L h' ((D, listOf (vs ++ us).toArray 0) :: news) → (∀ p ∈ news, p.1 < D) → Q (.ref D) { s with heap := h' }) : wpAny (model prog w) A (binaryOp .Add (.ref a) (.ref b)) Q E s :=
  kmk_add_lit F N ⟨_, (N _ ha).1, rfl, c1, rfl⟩ ⟨_, (N _ hb).1, rfl, c2, rfl⟩ (by simp) h (by rw [sizeLine_eq]; simp; omega)
theorem add_items (F : Fr h₀ L s.heap m) (N : News h₀ L s.heap news) (ha : (a, listOf vs.toArray c1) ∈ news) (hb : (b, listOf us.toArray c2) ∈ news) (hi : ItemsAre vs os) (hj : ItemsAre us ps) (hz : os.length + ps.length < 2 ^ 20)
    (h : ∀ D h', Fr h₀ L h' m → News h₀ L h' ((D, listOf (vs ++ us).toArray 0) :: news) → (∀ p ∈ news, p.1 < D) → ItemsAre (vs ++ us) (os ++ ps) → Q (.ref D) { s with heap := h' }) : wpAny (model prog w) A (binaryOp .Add (.ref a) (.ref b)) Q E s :=
  add_any F N ha hb (by rw [hi.length, hj.length]; exact hz) fun D h' F' N' l => h D h' F' N' l (ItemsAre.append hi hj)
theorem add_ints2 {ns ms : List Int} (F : Fr h₀ L s.heap m) (N : News h₀ L s.heap news) (ha : (a, listOf vs.toArray c1) ∈ news) (hb : (b, listOf us.toArray c2) ∈ news) (hi : IntsAre vs ns) (hj : IntsAre us ms) (hz : ns.length + ms.length < 2 ^ 20)
    (h : ∀ D h', Fr h₀ L h' m → News h₀ L h' ((D, listOf (vs ++ us).toArray 0) :: news) → (∀ p ∈ news, p.1 < D) → IntsAre (vs ++ us) (ns ++ ms) → Q (.ref D) { s with heap := h' }) : wpAny (model prog w) A (binaryOp .Add (.ref a) (.ref b)) Q E s :=
  add_any F N ha hb (by rw [hi.length, hj.length]; exact hz) fun D h' F' N' l => h D h' F' N' l (IntsAre.append hi hj)
end
theorem rle_spec2 {w : World} {p : Program} {loose : List Str} {mean : ExcName → Option Value} {mg mb : Str → Option Value}
    {dp un : Nat} {gd : Option (List Code)} {cn : Str} {cs : Scope} {a : Addr} {ccd : Value} {cl : List (Str × Addr)} {outer : List Env} {A₀ : Around} {base h₀ : Heap} {L : Addr} {m : Str → Option Value} {news : List (Addr × Obj)} {s : Shared} {Q E : Value → Shared → Prop} {l x d : Addr} {t1 t2 t3 t4 t5 tm : Tok} {vs : List Value} {c : Nat} {os : List (Option Int)}
    (B : Below A₀ base outer h₀) (F : Fr h₀ L s.heap m) (X : (frag.heap_1 w.params).In h₀) (N : News h₀ L s.heap news) (T : Top p loose mean mg mb h₀) (hk : cs.kind = .function) (hdp : dp + 8 < recursionLimit) (hun : un + 80 < cLine) (hx : (x, instObj 78 d) ∈ news) (hxd : (d, dictOf (vecD w.params t1 t2 t3 t4 t5 tm l) 5) ∈ news) (hl : (l, listOf vs.toArray c) ∈ news) (hi : ItemsAre vs os) (hb : os.length < 2 ^ 10)
    (ret : ∀ tp la lb n (ys zs : List Value) c1 c2 h' tk', IntsAre ys (runs os os.length).1 → IntsAre zs (runs os os.length).2 → (runs os os.length).1.length ≤ os.length → (runs os os.length).2.length = (runs os os.length).1.length → (∀ q ∈ news, q.1 < la) → la < lb → lb < tp → Fr h₀ L h' m →
      News h₀ L h' ((tp, tupObj #[.ref la, .ref lb] n) :: (lb, listOf zs.toArray c2) :: (la, listOf ys.toArray c1) :: news) → Q (.ref tp) { s with heap := h', toks := tk' }) :
    wpAny (model Challenge.pw_ov0077_01 w) (ktrTop dp un gd cn cs L a ccd cl outer) (call (.ref 487) [.ref x]) Q E s :=
  rle_spec B F X N T hk hdp hun hx hxd hl hi hb fun tp la lb n ys zs c1 c2 h' tk' h1 h2 h3 h4 h5 F' N' => ret tp la lb n ys zs c1 c2 h' tk' h1 h2 (runs_len os os.length).1 (runs_len os os.length).2 h3 h4 h5 F' N'
end
section
/-- the runs' lengths of a whole list -/
noncomputable def rl (os : List (Option Int)) : List Int := (runs os os.length).1
def seamB (os ps : List (Option Int)) : Bool := match os.getLast?, ps.head? with
  | some a, some b => sameB a b
  | _, _ => false
theorem seam_at {os ps : List (Option Int)} {n : Nat} {a b : Option Int} (h1 : n ≤ os.length) (e1 : os[n - 1]? = some a) (h2 : os.length ≤ n) (e2 : ps[0]? = some b) : seamB os ps = sameB a b := by
  obtain rfl : n = os.length := by omega
  have e3 : os.getLast? = some a := by rw [List.getLast?_eq_getElem?]; exact e1
  have e4 : ps.head? = some b := by rw [List.head?_eq_getElem?]; exact e2
  unfold seamB
  rw [e3, e4]
theorem seam_none {os ps : List (Option Int)} {n : Nat} (h1 : n = os.length) (e1 : os[n - 1]? = some Option.none) : seamB os ps = false := by
  subst h1
  have e3 : os.getLast? = some Option.none := by rw [List.getLast?_eq_getElem?]; exact e1
  unfold seamB
  rw [e3]
  cases ps.head? <;> rfl
def glue (a b : List Int) : List Int := a.dropLast ++ ([a.getLastD 0 + b.headD 0] ++ b.tail)
noncomputable def dueL (os ps : List (Option Int)) : List Int := if seamB os ps = true then glue (rl os) (rl ps) else rl os ++ rl ps
def inc (l : List Int) : List Int := l.dropLast ++ [l.getLastD 0 + 1]
theorem runs_inc {os : List (Option Int)} {i : Nat} (h : 0 < i ∧ sameB (os.getD (i - 1) Option.none) (os.getD i Option.none) = true) : runs os (i + 1) = (inc (runs os i).1, (runs os i).2) := by
  conv => lhs; unfold runs
  rw [if_pos h]; rfl
theorem runs_new {os : List (Option Int)} {i : Nat} (h : ¬ (0 < i ∧ sameB (os.getD (i - 1) Option.none) (os.getD i Option.none) = true)) : runs os (i + 1) = ((runs os i).1 ++ [1], (runs os i).2 ++ [(i : Int)]) := by
  conv => lhs; unfold runs
  rw [if_neg h]
/-- two steps of the runs' making -/
theorem runs_cases (os : List (Option Int)) (i : Nat) : (0 < i ∧ sameB (os.getD (i - 1) Option.none) (os.getD i Option.none) = true ∧ runs os (i + 1) = (inc (runs os i).1, (runs os i).2)) ∨ (¬ (0 < i ∧ sameB (os.getD (i - 1) Option.none) (os.getD i Option.none) = true) ∧ runs os (i + 1) = ((runs os i).1 ++ [1], (runs os i).2 ++ [(i : Int)])) := by
  by_cases h : 0 < i ∧ sameB (os.getD (i - 1) Option.none) (os.getD i Option.none) = true
  · exact .inl ⟨h.1, h.2, runs_inc h⟩
  · exact .inr ⟨h, runs_new h⟩
theorem snoc_of {l : List Int} (h : l ≠ []) : ∃ a x, l = a ++ [x] := ⟨l.dropLast, l.getLast h, (List.dropLast_concat_getLast h).symm⟩
theorem inc_snoc (a : List Int) (x : Int) : inc (a ++ [x]) = a ++ [x + 1] := by
  unfold inc
  rw [List.dropLast_concat, List.getLastD_concat]
theorem runs_pos {os : List (Option Int)} {i : Nat} (h : 0 < i) : (runs os i).1 ≠ [] := by
  obtain ⟨j, rfl⟩ : ∃ j, i = j + 1 := ⟨i - 1, by omega⟩
  exact runs_ne os j
theorem runs_sum' (os : List (Option Int)) : ∀ i, (runs os i).1.sum = (i : Int)
  | 0 => by simp [runs]
  | i + 1 => by
    have ih := runs_sum' os i
    rcases runs_cases os i with ⟨h, _, e⟩ | ⟨_, e⟩
    · obtain ⟨a, x, ea⟩ := snoc_of (runs_pos (os := os) h)
      rw [e, ea, inc_snoc]
      rw [ea] at ih
      simp only [List.sum_append, List.sum_cons, List.sum_nil] at ih ⊢
      omega
    · rw [e]
      simp only [List.sum_append, List.sum_cons, List.sum_nil]
      omega
theorem runs_sum (os : List (Option Int)) : (runs os os.length).1.sum = (os.length : Int) := runs_sum' os _
theorem runs_places {os : List (Option Int)} : ∀ {n : Nat} {k : Int}, k ∈ (runs os n).2 → 0 ≤ k ∧ k < n
  | 0, k, h => by simp [runs] at h
  | n + 1, k, h => by
    rcases runs_cases os n with ⟨_, _, e⟩ | ⟨_, e⟩
    · rw [e] at h
      have := runs_places (n := n) h
      omega
    · rw [e] at h
      rcases List.mem_append.mp h with h | h
      · have := runs_places (n := n) h; omega
      · have := List.mem_singleton.mp h; omega
theorem runs_bound {os : List (Option Int)} : ∀ {n : Nat} {k : Int}, k ∈ (runs os n).1 → 1 ≤ k ∧ k ≤ n
  | 0, k, h => by simp [runs] at h
  | n + 1, k, h => by
    rcases runs_cases os n with ⟨hp, _, e⟩ | ⟨_, e⟩
    · obtain ⟨a, x, ea⟩ := snoc_of (runs_pos (os := os) hp)
      rw [e, ea, inc_snoc] at h
      have hx := runs_bound (n := n) (k := x) (by rw [ea]; simp)
      rcases List.mem_append.mp h with h | h
      · have := runs_bound (n := n) (k := k) (by rw [ea]; exact List.mem_append_left _ h); omega
      · have := List.mem_singleton.mp h; omega
    · rw [e] at h
      rcases List.mem_append.mp h with h | h
      · have := runs_bound (n := n) h; omega
      · have := List.mem_singleton.mp h; omega
theorem runs_prefix (os ps : List (Option Int)) : ∀ i, i ≤ os.length → runs (os ++ ps) i = runs os i
  | 0, _ => rfl
  | i + 1, h => by
    have ih := runs_prefix os ps i (by omega)
    have e1 : (os ++ ps).getD i Option.none = os.getD i Option.none := by simp [List.getD, List.getElem?_append_left (show i < os.length by omega)]
    have e2 : (os ++ ps).getD (i - 1) Option.none = os.getD (i - 1) Option.none := by simp [List.getD, List.getElem?_append_left (show i - 1 < os.length by omega)]
    unfold runs
    rw [ih, e1, e2]
theorem inc_append (a : List Int) {b : List Int} (h : b ≠ []) : inc (a ++ b) = a ++ inc b := by
  obtain ⟨c, x, rfl⟩ := snoc_of h
  rw [← List.append_assoc, inc_snoc, inc_snoc, List.append_assoc]
theorem glue_one (a : List Int) (x : Int) : glue a [x] = a.dropLast ++ [a.getLastD 0 + x] := by simp [glue]
theorem glue_snoc (a b : List Int) (h : b ≠ []) (x : Int) : glue a (b ++ [x]) = glue a b ++ [x] := by
  cases b with
  | nil => exact absurd rfl h
  | cons y r => simp [glue]
theorem inc_glue (a : List Int) {b : List Int} (h : b ≠ []) : inc (glue a b) = glue a (inc b) := by
  obtain ⟨c, x, rfl⟩ := snoc_of h
  rw [inc_snoc]
  by_cases hc : c = []
  · subst hc
    rw [List.nil_append, List.nil_append, glue_one, glue_one, inc_snoc, Int.add_assoc]
  · rw [glue_snoc _ _ hc, glue_snoc _ _ hc, inc_snoc]
theorem getD_right (os ps : List (Option Int)) (j : Nat) : (os ++ ps).getD (os.length + j) Option.none = ps.getD j Option.none := by
  simp [List.getD, List.getElem?_append_right]
theorem seam_eq (os ps : List (Option Int)) (h1 : 0 < os.length) (h2 : 0 < ps.length) : seamB os ps = sameB (os.getD (os.length - 1) Option.none) (ps.getD 0 Option.none) := by
  have e1 : os[os.length - 1]? = some (os.getD (os.length - 1) Option.none) := by rw [List.getD, List.getElem?_eq_getElem (by omega)]; rfl
  have e2 : ps[0]? = some (ps.getD 0 Option.none) := by rw [List.getD, List.getElem?_eq_getElem h2]; rfl
  exact seam_at (Nat.le_refl _) e1 (Nat.le_refl _) e2
theorem runs_join' (os ps : List (Option Int)) : ∀ j, j + 1 ≤ ps.length → (runs (os ++ ps) (os.length + (j + 1))).1 = if seamB os ps = true then glue (rl os) (runs ps (j + 1)).1 else rl os ++ (runs ps (j + 1)).1
  | 0, h => by
    have e0 : (runs ps 1).1 = [1] := by
      rcases runs_cases ps 0 with ⟨h, _⟩ | ⟨_, e⟩
      · omega
      · rw [e]; rfl
    rw [e0]
    have hp := runs_prefix os ps os.length (Nat.le_refl _)
    rcases runs_cases (os ++ ps) os.length with ⟨hp0, hs, e⟩ | ⟨hn, e⟩
    · have hs' : seamB os ps = true := by
        rw [seam_eq os ps hp0 (by omega)]
        have e1 := getD_right os ps 0
        have e2 : (os ++ ps).getD (os.length - 1) Option.none = os.getD (os.length - 1) Option.none := by simp [List.getD, List.getElem?_append_left (show os.length - 1 < os.length by omega)]
        rw [Nat.add_zero] at e1
        rw [e1, e2] at hs
        exact hs
      rw [if_pos hs', show os.length + (0 + 1) = os.length + 1 from rfl, e, hp, glue_one]
      rfl
    · have hs' : ¬ seamB os ps = true := fun hs => by
        by_cases hz : 0 < os.length
        · rw [seam_eq os ps hz (by omega)] at hs
          refine hn ⟨hz, ?_⟩
          have e1 := getD_right os ps 0
          have e2 : (os ++ ps).getD (os.length - 1) Option.none = os.getD (os.length - 1) Option.none := by simp [List.getD, List.getElem?_append_left (show os.length - 1 < os.length by omega)]
          rw [Nat.add_zero] at e1
          rw [e1, e2]
          exact hs
        · obtain rfl : os = [] := List.length_eq_zero_iff.mp (by omega)
          simp [seamB] at hs
      rw [if_neg hs', show os.length + (0 + 1) = os.length + 1 from rfl, e, hp]
      rfl
  | j + 1, h => by
    have ih := runs_join' os ps j (by omega)
    have e1 : (os ++ ps).getD (os.length + (j + 1)) Option.none = ps.getD (j + 1) Option.none := getD_right os ps (j + 1)
    have e2 : (os ++ ps).getD (os.length + (j + 1) - 1) Option.none = ps.getD (j + 1 - 1) Option.none := getD_right os ps j
    have hne : (runs ps (j + 1)).1 ≠ [] := runs_ne ps j
    rw [show os.length + (j + 1 + 1) = (os.length + (j + 1)) + 1 from rfl]
    rcases runs_cases ps (j + 1) with ⟨_, hs, e⟩ | ⟨hn, e⟩
    · rw [runs_inc ⟨by omega, by rw [e1, e2]; exact hs⟩, e]
      dsimp only
      rw [ih]
      split
      · exact inc_glue _ hne
      · exact inc_append _ hne
    · rw [runs_new (fun hh => hn ⟨by omega, by have := hh.2; rw [e1, e2] at this; exact this⟩), e]
      dsimp only
      rw [ih]
      split
      · exact (glue_snoc _ _ hne 1).symm
      · exact List.append_assoc _ _ _
theorem runs_join (os ps : List (Option Int)) : (runs (os ++ ps) (os ++ ps).length).1 = dueL os ps := by
  rw [List.length_append]
  unfold dueL
  by_cases h : ps.length = 0
  · obtain rfl : ps = [] := List.length_eq_zero_iff.mp h
    have : seamB os [] = false := by
      unfold seamB
      cases os.getLast? <;> rfl
    rw [this, if_neg (by decide), List.append_nil]
    show (runs os os.length).1 = _
    simp [rl, runs]
  · obtain ⟨j, hj⟩ : ∃ j, ps.length = j + 1 := ⟨ps.length - 1, by omega⟩
    rw [hj, runs_join' os ps j (by omega)]
    show _ = if seamB os ps = true then glue (rl os) (runs ps ps.length).1 else rl os ++ (runs ps ps.length).1
    rw [hj]
theorem expand_congr {ns ms : List Int} : ∀ {i : Nat}, (∀ j, j < i → ns.getD j 0 = ms.getD j 0) → expand ns i = expand ms i
  | 0, _ => rfl
  | i + 1, h => by
    rw [expand, expand, expand_congr (fun j hj => h j (by omega)), h i (by omega)]
theorem items_of_get : ∀ {ys : List Value} {os : List (Option Int)}, ys.length = os.length → (∀ (i : Nat) v, ys[i]? = some v → ItemsAre [v] [os.getD i Option.none]) → ItemsAre ys os
  | [], [], _, _ => .nil
  | [], _ :: _, h, _ => by simp at h
  | _ :: _, [], h, _ => by simp at h
  | y :: ys, o :: os, h, k => by
    have h0 := k 0 y rfl
    have ih := items_of_get (ys := ys) (os := os) (by simpa using h) fun i v e => by simpa [List.getD] using k (i + 1) v (by simpa using e)
    exact ItemsAre.append h0 ih
theorem snoc_at {α : Type} {l : List α} {x : α} {n : Nat} (h : l.length = n) : (l ++ [x])[n]? = some x := by
  subst h; simp
theorem snoc_lt {α : Type} {l : List α} {x y : α} {i : Nat} (h : l[i]? = some y) : (l ++ [x])[i]? = some y := by
  rw [List.getElem?_append_left (List.getElem?_eq_some_iff.mp h).1]; exact h
theorem sameB_eq {a b : Option Int} (h : sameB a b = true) : a = b := by
  unfold sameB at h
  simp only [Bool.and_eq_true, beq_iff_eq] at h
  exact h.2
theorem rle_inv (os : List (Option Int)) : ∀ n, (expand (runs os n).1 (runs os n).1.length).length = n ∧
    (∀ i, i < n → ∃ (j : Nat) (p : Int), (expand (runs os n).1 (runs os n).1.length)[i]? = some (j : Int) ∧ (runs os n).2[j]? = some p ∧ os.getD p.toNat Option.none = os.getD i Option.none) ∧
    (0 < n → ∃ p, (runs os n).2[(runs os n).1.length - 1]? = some p ∧ os.getD p.toNat Option.none = os.getD (n - 1) Option.none)
  | 0 => by simp [runs, expand]
  | n + 1 => by
    obtain ⟨ih1, ih2, ih3⟩ := rle_inv os n
    have hl := (runs_len os n).2
    rcases runs_cases os n with ⟨hp, hs, e⟩ | ⟨_, e⟩
    · obtain ⟨a, x, ea⟩ := snoc_of (runs_pos (os := os) hp)
      have hx := (runs_bound (os := os) (n := n) (k := x) (by rw [ea]; simp)).1
      have hsame := sameB_eq hs
      have hE : expand (inc (runs os n).1) (inc (runs os n).1).length = expand (runs os n).1 (runs os n).1.length ++ [(((runs os n).1.length - 1 : Nat) : Int)] := by
        rw [ea, inc_snoc]
        simp only [List.length_append, List.length_cons, List.length_nil, Nat.zero_add, Nat.add_sub_cancel]
        rw [expand, expand, expand_congr (ns := a ++ [x + 1]) (ms := a ++ [x]) (fun j hj => by simp [List.getD, List.getElem?_append_left hj]), List.append_assoc]
        congr 1
        have g1 : (a ++ [x + 1]).getD a.length 0 = x + 1 := by simp [List.getD]
        have g2 : (a ++ [x]).getD a.length 0 = x := by simp [List.getD]
        rw [g1, g2, show (x + 1).toNat = x.toNat + 1 by omega, List.replicate_succ']
      have hm : (runs os n).1.length - 1 < (runs os n).1.length := by rw [ea]; simp
      have hil : (inc (runs os n).1).length = (runs os n).1.length := by rw [ea, inc_snoc]; simp
      obtain ⟨p, hp1, hp2⟩ := ih3 hp
      rw [e]
      dsimp only
      refine ⟨by rw [hE, List.length_append, ih1]; rfl, fun i hi => ?_, fun _ => ⟨p, by rw [hil]; exact hp1, by rw [hp2, Nat.add_sub_cancel, hsame]⟩⟩
      rw [hE]
      by_cases h : i < n
      · obtain ⟨j, q, h1, h2, h3⟩ := ih2 i h
        exact ⟨j, q, snoc_lt h1, h2, h3⟩
      · obtain rfl : i = n := by omega
        exact ⟨_, p, snoc_at ih1, hp1, by rw [hp2, hsame]⟩
    · have hE : expand ((runs os n).1 ++ [1]) ((runs os n).1 ++ [1]).length = expand (runs os n).1 (runs os n).1.length ++ [((runs os n).1.length : Int)] := by
        simp only [List.length_append, List.length_cons, List.length_nil, Nat.zero_add]
        rw [expand, expand_congr (ns := (runs os n).1 ++ [1]) (ms := (runs os n).1) (fun j hj => by simp [List.getD, List.getElem?_append_left hj])]
        congr 1
        have g1 : ((runs os n).1 ++ [1]).getD (runs os n).1.length 0 = 1 := by simp [List.getD]
        rw [g1]; rfl
      rw [e]
      dsimp only
      refine ⟨by rw [hE, List.length_append, ih1]; rfl, fun i hi => ?_, fun _ => ⟨(n : Int), ?_, by simp⟩⟩
      · rw [hE]
        by_cases h : i < n
        · obtain ⟨j, q, h1, h2, h3⟩ := ih2 i h
          exact ⟨j, q, snoc_lt h1, snoc_lt h2, h3⟩
        · obtain rfl : i = n := by omega
          exact ⟨_, (i : Int), snoc_at ih1, snoc_at hl, by simp⟩
      · simp only [List.length_append, List.length_cons, List.length_nil, Nat.zero_add, Nat.add_sub_cancel]
        exact snoc_at hl
theorem rle_back {os : List (Option Int)} {V H Y : List Value} (hi : ItemsAre V os) (_hl : H.length = (runs os os.length).1.length) (hh : ∀ (i : Nat) v, H[i]? = some v → ∃ k, (runs os os.length).2[i]? = some k ∧ V[k.toNat]? = some v)
    (hY : Y.length = (expand (runs os os.length).1 (runs os os.length).1.length).length) (hy : ∀ (i : Nat) v, Y[i]? = some v → ∃ k, (expand (runs os os.length).1 (runs os os.length).1.length)[i]? = some k ∧ H[k.toNat]? = some v) : ItemsAre Y os := by
  obtain ⟨h1, h2, _⟩ := rle_inv os os.length
  refine items_of_get (by rw [hY, h1]) fun i v e => ?_
  have hlt : i < os.length := by rw [← h1, ← hY]; exact (List.getElem?_eq_some_iff.mp e).1
  obtain ⟨k, hk, hv⟩ := hy i v e
  obtain ⟨j, p, g1, g2, g3⟩ := h2 i hlt
  rw [hk] at g1
  obtain rfl : k = (j : Int) := Option.some.inj g1
  rw [Int.toNat_natCast] at hv
  obtain ⟨k2, h4, h5⟩ := hh j v hv
  rw [g2] at h4
  obtain rfl : p = k2 := Option.some.inj h4
  have := ItemsAre.one hi h5
  rw [g3] at this
  exact this
theorem getD_at {l : List Int} {i : Nat} (h : i < l.length) : l[i]? = some (l.getD i 0) := by rw [List.getD, List.getElem?_eq_getElem h]; rfl
theorem dif_at {lag : Nat} {l : List Int} {i : Nat} (h : i < l.length - lag) : (dif lag l)[i]? = some (l.getD (lag + i) 0 - l.getD i 0) := by
  unfold dif
  rw [List.getElem?_zipWith, List.getElem?_drop, List.getElem?_take, if_pos h, getD_at (by omega), getD_at (by omega)]
theorem dif_sum (l : List Int) (h : 1 < l.length) : (dif 1 l).sum = l.getD (l.length - 1) 0 - l.getD 0 0 := by
  have key : ∀ (r : List Int) (x : Int), (dif 1 (x :: r)).sum = (x :: r).getD r.length 0 - x := by
    intro r
    induction r with
    | nil => intro x; simp [dif]
    | cons y r ih =>
      intro x
      have e : dif 1 (x :: y :: r) = (y - x) :: dif 1 (y :: r) := by
        simp [dif]
      rw [e, List.sum_cons, ih y]
      simp [List.getD]
      omega
  cases l with
  | nil => simp at h
  | cons x r =>
    rw [key]
    simp [List.getD]
theorem difs_succ' (lag : Nat) (ns : List Int) : ∀ k, difs lag k (dif lag ns) = difs lag (k + 1) ns
  | 0 => rfl
  | k + 1 => by rw [difs, difs_succ' lag ns k]; rfl
theorem dif_rev (lag : Nat) (l : List Int) : dif lag l.reverse = ((dif lag l).map fun x => 0 - x).reverse := by
  apply List.ext_getElem?
  intro i
  by_cases h : i < l.length - lag
  · rw [dif_at (by rw [List.length_reverse]; exact h), List.getElem?_reverse (by rw [List.length_map, dif_length]; exact h), List.length_map, dif_length, List.getElem?_map, dif_at (by omega)]
    have r : ∀ j, j < l.length → l.reverse.getD j 0 = l.getD (l.length - 1 - j) 0 := fun j hj => by rw [List.getD, List.getElem?_reverse hj]; rfl
    rw [r _ (by omega), r _ (by omega)]
    simp only [Option.map_some, Option.some.injEq]
    rw [show l.length - 1 - (lag + i) = l.length - lag - 1 - i by omega, show lag + (l.length - lag - 1 - i) = l.length - 1 - i by omega]
    omega
  · rw [List.getElem?_eq_none (by rw [dif_length, List.length_reverse]; omega), List.getElem?_eq_none (by rw [List.length_reverse, List.length_map, dif_length]; omega)]
section
variable {prog : Program} {w : World} {A : Around} {E : Value → Shared → Prop} {s : Shared} {h₀ : Heap} {L : Addr} {m : Str → Option Value} {news : List (Addr × Obj)}
theorem ne_itemsT {a b : Addr} {vs us : List Value} {os ps : List (Option Int)} {c1 c2 : Nat} {Q : Value → Shared → Prop} (N : News h₀ L s.heap news) (ha : (a, listOf vs.toArray c1) ∈ news) (hb : (b, listOf us.toArray c2) ∈ news) (hi : ItemsAre vs os) (hj : ItemsAre us ps) (hu : A.units + 64 < cLine) (e : os ≠ ps)
    (h : Q (.bool true) s) : wpAny (model prog w) A (compareOp .NotEq (.ref a) (.ref b)) Q E s :=
  ne_items N ha hb hi hj hu (by rw [decide_eq_false e]; exact h)
theorem ne_itemsF {a b : Addr} {vs us : List Value} {os ps : List (Option Int)} {c1 c2 : Nat} {Q : Value → Shared → Prop} (N : News h₀ L s.heap news) (ha : (a, listOf vs.toArray c1) ∈ news) (hb : (b, listOf us.toArray c2) ∈ news) (hi : ItemsAre vs os) (hj : ItemsAre us ps) (hu : A.units + 64 < cLine) (e : os = ps)
    (h : Q (.bool false) s) : wpAny (model prog w) A (compareOp .NotEq (.ref a) (.ref b)) Q E s :=
  ne_items N ha hb hi hj hu (by rw [decide_eq_true e]; exact h)
theorem item_last {value slice : PySem.Expr} {l : Addr} {vs : List Value} {c : Nat} {u : Tok} {v : Value} {Q : Value → Shared → Prop} (N : News h₀ L s.heap news) (hm : (l, listOf vs.toArray c) ∈ news) (hv : vs[vs.length - 1]? = some v) (hb : vs.length < 2 ^ 20) (h : Q v s)
    (hs : subscripted slice false (.ref l) (.int (-1) u) = operate [.ref l, .int (-1) u] (getItem (.ref l) (.int (-1) u)) := by with_unfolding_all rfl) :
    wpAny (model prog w) A (subscriptTail value slice (.ref l) (.int (-1) u)) Q E s :=
  item_neg N hm (by have := (List.getElem?_eq_some_iff.mp hv).1; omega) hb (fun v' e => by rw [hv] at e; cases e; exact h) hs
theorem item_first {value slice : PySem.Expr} {l : Addr} {vs : List Value} {c : Nat} {u : Tok} {v : Value} {Q : Value → Shared → Prop} (N : News h₀ L s.heap news) (hm : (l, listOf vs.toArray c) ∈ news) (hv : vs[0]? = some v) (hb : vs.length < 2 ^ 20) (h : Q v s)
    (hs : subscripted slice false (.ref l) (.int 0 u) = operate [.ref l, .int 0 u] (getItem (.ref l) (.int 0 u)) := by with_unfolding_all rfl) :
    wpAny (model prog w) A (subscriptTail value slice (.ref l) (.int 0 u)) Q E s :=
  item_gen (k := 0) N hm (by decide) (by have := (List.getElem?_eq_some_iff.mp hv).1; omega) hb (fun v' e => by rw [show (0 : Int).toNat = 0 from rfl, hv] at e; cases e; exact h) hs
theorem join_if {M : Model} {env : Env} {st : Stmt} {Q : Flow → Shared → Prop} (Mid : Shared → Prop) (h1 : wpAny M A (exec st env) (fun f s' => f = .next ∧ Rest (Mid s')) E s) (h2 : ∀ s', Mid s' → Q .next s') : wpAny M A (exec st env) Q E s :=
  wpAny_mono h1 (fun f s' h => by obtain ⟨rfl, h⟩ := h; exact h2 s' h) fun _ _ x => x
theorem News.sub {h : Heap} {nx : List (Addr × Obj)} (N : News h₀ L h news) (k : ∀ p ∈ nx, p ∈ news) : News h₀ L h nx := fun p hp => N p (k p hp)
end
theorem News.one {h₀ h : Heap} {L : Addr} {news nx : List (Addr × Obj)} {q : Addr × Obj} (N : News h₀ L h news) (hm : q ∈ news) (N' : News h₀ L h nx) : News h₀ L h (q :: nx) := fun p hp => by
  rcases List.mem_cons.mp hp with rfl | hp
  · exact N _ hm
  · exact N' p hp
theorem join_if3 {M : Model} {A : Around} {E : Value → Shared → Prop} {s : Shared} {h₀ : Heap} {L : Addr} {m₀ : Str → Option Value} {env : Env} {st : Stmt} {Q : Flow → Shared → Prop} (_ : Fr h₀ L s.heap m₀) (Mid : List (Addr × Obj) → Prop)
    (h1 : wpAny M A (exec st env) (fun f s' => f = .next ∧ Rest (∃ h' tk nx, s' = { s with heap := h', toks := tk } ∧ Fr h₀ L h' m₀ ∧ News h₀ L h' nx ∧ Mid nx)) E s)
    (h2 : ∀ h' tk nx, Fr h₀ L h' m₀ → News h₀ L h' nx → Mid nx → Q .next { s with heap := h', toks := tk }) : wpAny M A (exec st env) Q E s :=
  wpAny_mono h1 (fun f s' h => by
    obtain ⟨rfl, h', tk, nx, rfl, F, N, hm⟩ := h
    exact h2 h' tk nx F N hm) fun _ _ x => x
section
variable {prog : Program} {w : World} {A : Around} {E : Value → Shared → Prop} {s : Shared} {a b : Int} {t u : Tok} {Q : Value → Shared → Prop}
theorem eq_intT (e : a = b) (h : Q (.bool true) s) : wpAny (model prog w) A (compareOp .Eq (.int a t) (.int b u)) Q E s := PyProof.Rows.eq_int (by rw [e, beq_self_eq_true]; exact h)
theorem eq_intF (e : ¬ a = b) (h : Q (.bool false) s) : wpAny (model prog w) A (compareOp .Eq (.int a t) (.int b u)) Q E s := PyProof.Rows.eq_int (by rw [beq_eq_false_iff_ne.mpr e]; exact h)
end
theorem glue_form (a b : List Int) : glue a b = a.take (a.length - (- -1 : Int).toNat) ++ [a.getD (-1 + (a.length : Int)).toNat 0 + b.getD (0 : Int).toNat 0] ++ b.drop (Int.toNat 1) := by
  have h1 : a.dropLast = a.take (a.length - (- -1 : Int).toNat) := by rw [List.dropLast_eq_take]; rfl
  have h2 : a.getLastD 0 = a.getD (-1 + (a.length : Int)).toNat 0 := by
    rw [List.getLastD_eq_getLast?, List.getLast?_eq_getElem?, List.getD]
    congr 2
    omega
  have h3 : b.headD 0 = b.getD (0 : Int).toNat 0 := by cases b <;> rfl
  have h4 : b.tail = b.drop (Int.toNat 1) := by cases b <;> rfl
  unfold glue
  rw [h1, h2, h3, h4, List.append_assoc]
section
variable {prog : Program} {w : World} {A : Around} {E : Value → Shared → Prop} {s : Shared} {h₀ : Heap} {L : Addr} {m : Str → Option Value} {news : List (Addr × Obj)}
theorem ne_intsF {a b : Addr} {vs us : List Value} {os ps : List Int} {c1 c2 : Nat} {Q : Value → Shared → Prop} (N : News h₀ L s.heap news) (ha : (a, listOf vs.toArray c1) ∈ news) (hb : (b, listOf us.toArray c2) ∈ news) (hi : IntsAre vs os) (hj : IntsAre us ps) (hu : A.units + 64 < cLine) (e : os = ps)
    (h : Q (.bool false) s) : wpAny (model prog w) A (compareOp .NotEq (.ref a) (.ref b)) Q E s :=
  ne_intsK ⟨_, (N _ ha).1, rfl, c1, rfl⟩ hi ⟨_, (N _ hb).1, rfl, c2, rfl⟩ hj hu (by rw [decide_eq_true e]; exact h)
theorem ne_intF {a b : Int} {t u : Tok} {Q : Value → Shared → Prop} (e : a = b) (h : Q (.bool false) s) : wpAny (model prog w) A (compareOp .NotEq (.int a t) (.int b u)) Q E s := PyProof.Rows.ne_int (by rw [e, bne_self_eq_false]; exact h)
end
theorem told_goodI {w : World} {p : Program} {loose : List Str} {mean : ExcName → Option Value} {mg mb : Str → Option Value}
    {dp un : Nat} {gd : Option (List Code)} {cn : Str} {cs : Scope} {a : Addr} {ccd : Value} {cl : List (Str × Addr)} {outer : List Env} {A₀ : Around} {base h₀ : Heap} {L : Addr} {m : Str → Option Value} {news : List (Addr × Obj)} {s : Shared} {Q E : Value → Shared → Prop} {l : Addr} {vs : List Value} {c : Nat} {ns : List Int} {lag df : Int} {ta tb : Tok}
    (B : Below A₀ base outer h₀) (F : Fr h₀ L s.heap m) (X : (frag.heap_1 w.params).In h₀) (N : News h₀ L s.heap news) (T : Top p loose mean mg mb h₀) (hk : cs.kind = .function) (hdp : dp + 60 < recursionLimit) (hun : un + 600 < cLine) (hl : (l, listOf vs.toArray c) ∈ news) (hi : IntsAre vs ns) (hb : ns.length < 2 ^ 10) (h1 : 1 ≤ lag) (h2 : lag ≤ 3) (h3 : 1 ≤ df) (h4 : df ≤ 3) (hsm : Small 50 ns)
    (ret : ∀ l' ys c' h' tk', IntsAre ys (if ns.length ≤ lag.toNat * df.toNat then [] else difs lag.toNat df.toNat ns) → (∀ q ∈ news, q.1 < l') → Fr h₀ L h' m → News h₀ L h' ((l', listOf ys.toArray c') :: news) → Q (.ref l') { s with heap := h', toks := tk' }) :
    wpAny (model Challenge.pw_ov0077_01 w) (ktrTop dp un gd cn cs L a ccd cl outer) (call (.ref 529) [.ref l, .int lag ta, .int df tb]) Q E s := by
  obtain ⟨a, rfl⟩ := Int.eq_ofNat_of_zero_le (show 0 ≤ lag by omega)
  obtain ⟨b, rfl⟩ := Int.eq_ofNat_of_zero_le (show 0 ≤ df by omega)
  exact told_good B F X N T hk hdp hun hl hi hb (by omega) (by omega) (by omega) (by omega) hsm ret
theorem item_int {prog : Program} {w : World} {A : Around} {E : Value → Shared → Prop} {s : Shared} {h₀ : Heap} {L : Addr} {news : List (Addr × Obj)} {value slice : PySem.Expr} {l : Addr} {vs : List Value} {ns : List Int} {c : Nat} {k : Int} {u : Tok} {Q : Value → Shared → Prop} (N : News h₀ L s.heap news) (hm : (l, listOf vs.toArray c) ∈ news) (hi : IntsAre vs ns) (h0 : 0 ≤ k) (h1 : k < ns.length) (hb : ns.length < 2 ^ 20)
    (h : ∀ n t, ns[k.toNat]? = some n → Q (.int n t) s) (hs : subscripted slice false (.ref l) (.int k u) = operate [.ref l, .int k u] (getItem (.ref l) (.int k u)) := by with_unfolding_all rfl) :
    wpAny (model prog w) A (subscriptTail value slice (.ref l) (.int k u)) Q E s :=
  item_gen N hm h0 (by rw [hi.length]; exact h1) (by rw [hi.length]; exact hb) (fun v e => by
    obtain ⟨n, t, rfl, e2⟩ := IntsAre.at hi _ _ e
    exact h n t e2) hs
theorem dif_of {ys : List Value} {xs : List Int} {lag n : Nat} (hn : n = xs.length - lag) (hl : ys.length = n) (hy : ∀ (j : Nat) y, ys[j]? = some y → ∃ a b t, y = .int (a - b) t ∧ xs[lag + j]? = some a ∧ xs[j]? = some b) : IntsAre ys (dif lag xs) := by
  refine ints_of_get (by rw [hl, dif_length, hn]) fun j y e => ?_
  obtain ⟨a, b, t, rfl, ha, hb⟩ := hy j y e
  refine ⟨a - b, t, ?_, rfl⟩
  have hj : j < n := by rw [← hl]; exact (List.getElem?_eq_some_iff.mp e).1
  unfold dif
  rw [List.getElem?_zipWith, List.getElem?_drop, ha, List.getElem?_take, if_pos (by omega), hb]
section
variable {prog : Program} {w : World} {A : Around} {E : Value → Shared → Prop} {s : Shared} {h₀ : Heap} {L : Addr} {m : Str → Option Value} {news : List (Addr × Obj)}
theorem lt_intT {a b : Int} {t u : Tok} {Q : Value → Shared → Prop} (e : a < b) (h : Q (.bool true) s) : wpAny (model prog w) A (compareOp .Lt (.int a t) (.int b u)) Q E s := PySem.P.lt_int (by rw [decide_eq_true e]; exact h)
theorem lt_intF {a b : Int} {t u : Tok} {Q : Value → Shared → Prop} (e : ¬ a < b) (h : Q (.bool false) s) : wpAny (model prog w) A (compareOp .Lt (.int a t) (.int b u)) Q E s := PySem.P.lt_int (by rw [decide_eq_false e]; exact h)
theorem gt_intT {a b : Int} {t u : Tok} {Q : Value → Shared → Prop} (e : a > b) (h : Q (.bool true) s) : wpAny (model prog w) A (compareOp .Gt (.int a t) (.int b u)) Q E s := PySem.P.gt_int (by rw [decide_eq_true e]; exact h)
theorem gt_intF {a b : Int} {t u : Tok} {Q : Value → Shared → Prop} (e : ¬ a > b) (h : Q (.bool false) s) : wpAny (model prog w) A (compareOp .Gt (.int a t) (.int b u)) Q E s := PySem.P.gt_int (by rw [decide_eq_false e]; exact h)
theorem eq_intsT {a b : Addr} {vs us : List Value} {os ps : List Int} {c1 c2 : Nat} {Q : Value → Shared → Prop} (N : News h₀ L s.heap news) (ha : (a, listOf vs.toArray c1) ∈ news) (hb : (b, listOf us.toArray c2) ∈ news) (hi : IntsAre vs os) (hj : IntsAre us ps) (hu : A.units + 64 < cLine) (e : os = ps)
    (h : Q (.bool true) s) : wpAny (model prog w) A (compareOp .Eq (.ref a) (.ref b)) Q E s :=
  eq_intsK ⟨_, (N _ ha).1, rfl, c1, rfl⟩ hi ⟨_, (N _ hb).1, rfl, c2, rfl⟩ hj hu (by rw [decide_eq_true e]; exact h)
end
theorem small_dif {lag : Nat} {ns : List Int} (h : ∀ x ∈ ns, 0 ≤ x ∧ x < 5) : Small 50 (dif lag ns) := by
  have hg : ∀ j, 0 ≤ ns.getD j 0 ∧ ns.getD j 0 < 5 := fun j => by
    by_cases hj : j < ns.length
    · exact h _ (List.mem_of_getElem? (getD_at hj))
    · rw [List.getD, List.getElem?_eq_none (by omega)]; decide
  intro x hx
  obtain ⟨i, e⟩ := List.mem_iff_getElem?.mp hx
  have hi : i < ns.length - lag := by rw [← dif_length]; exact (List.getElem?_eq_some_iff.mp e).1
  rw [dif_at hi] at e
  have h1 := hg (lag + i)
  have h2 := hg i
  have e2 : ns.getD (lag + i) 0 - ns.getD i 0 = x := Option.some.inj e
  constructor <;> omega
theorem told_one {w : World} {p : Program} {loose : List Str} {mean : ExcName → Option Value} {mg mb : Str → Option Value}
    {dp un : Nat} {gd : Option (List Code)} {cn : Str} {cs : Scope} {a : Addr} {ccd : Value} {cl : List (Str × Addr)} {outer : List Env} {A₀ : Around} {base h₀ : Heap} {L : Addr} {m : Str → Option Value} {news : List (Addr × Obj)} {s : Shared} {Q E : Value → Shared → Prop} {l : Addr} {vs : List Value} {c : Nat} {ns : List Int} {k : Nat} {ta tb : Tok}
    (B : Below A₀ base outer h₀) (F : Fr h₀ L s.heap m) (X : (frag.heap_1 w.params).In h₀) (N : News h₀ L s.heap news) (T : Top p loose mean mg mb h₀) (hk : cs.kind = .function) (hdp : dp + 60 < recursionLimit) (hun : un + 600 < cLine) (hl : (l, listOf vs.toArray c) ∈ news) (hi : IntsAre vs ns) (hb : ns.length < 2 ^ 10) (h1 : 1 ≤ k) (h2 : k ≤ 3) (hsm : Small 50 ns)
    (ret : ∀ l' ys c' h' tk', IntsAre ys (dif k ns) → (∀ q ∈ news, q.1 < l') → Fr h₀ L h' m → News h₀ L h' ((l', listOf ys.toArray c') :: news) → Q (.ref l') { s with heap := h', toks := tk' }) :
    wpAny (model Challenge.pw_ov0077_01 w) (ktrTop dp un gd cn cs L a ccd cl outer) (call (.ref 529) [.ref l, .int (k : Int) ta, .int 1 tb]) Q E s :=
  told_goodI B F X N T hk hdp hun hl hi hb (by omega) (by omega) (by omega) (by omega) hsm fun l' ys c' h' tk' hy => ret l' ys c' h' tk' (by
    rw [Int.toNat_natCast, show (1 : Int).toNat = 1 from rfl, Nat.mul_one] at hy
    by_cases hle : ns.length ≤ k
    · rw [if_pos hle] at hy
      have e : dif k ns = [] := List.length_eq_zero_iff.mp (by rw [dif_length]; omega)
      rw [e]; exact hy
    · rw [if_neg hle] at hy; exact hy)
theorem told_11 {w : World} {p : Program} {loose : List Str} {mean : ExcName → Option Value} {mg mb : Str → Option Value}
    {dp un : Nat} {gd : Option (List Code)} {cn : Str} {cs : Scope} {a : Addr} {ccd : Value} {cl : List (Str × Addr)} {outer : List Env} {A₀ : Around} {base h₀ : Heap} {L : Addr} {m : Str → Option Value} {news : List (Addr × Obj)} {s : Shared} {Q E : Value → Shared → Prop} {l : Addr} {vs : List Value} {c : Nat} {ns : List Int} {ta tb : Tok}
    (B : Below A₀ base outer h₀) (F : Fr h₀ L s.heap m) (X : (frag.heap_1 w.params).In h₀) (N : News h₀ L s.heap news) (T : Top p loose mean mg mb h₀) (hk : cs.kind = .function) (hdp : dp + 60 < recursionLimit) (hun : un + 600 < cLine) (hl : (l, listOf vs.toArray c) ∈ news) (hi : IntsAre vs ns) (hb : ns.length < 2 ^ 10) (hsm : Small 50 ns)
    (ret : ∀ l' ys c' h' tk', IntsAre ys (dif 1 ns) → (∀ q ∈ news, q.1 < l') → Fr h₀ L h' m → News h₀ L h' ((l', listOf ys.toArray c') :: news) → Q (.ref l') { s with heap := h', toks := tk' }) :
    wpAny (model Challenge.pw_ov0077_01 w) (ktrTop dp un gd cn cs L a ccd cl outer) (call (.ref 529) [.ref l, .int 1 ta, .int 1 tb]) Q E s :=
  told_one (k := 1) B F X N T hk hdp hun hl hi hb (by omega) (by omega) hsm ret
theorem told_rest {w : World} {p : Program} {loose : List Str} {mean : ExcName → Option Value} {mg mb : Str → Option Value}
    {dp un : Nat} {gd : Option (List Code)} {cn : Str} {cs : Scope} {a : Addr} {ccd : Value} {cl : List (Str × Addr)} {outer : List Env} {A₀ : Around} {base h₀ : Heap} {L : Addr} {m : Str → Option Value} {news : List (Addr × Obj)} {s : Shared} {Q E : Value → Shared → Prop} {l : Addr} {vs : List Value} {c : Nat} {ns : List Int} {k b : Nat} {ta tb : Tok}
    (B : Below A₀ base outer h₀) (F : Fr h₀ L s.heap m) (X : (frag.heap_1 w.params).In h₀) (N : News h₀ L s.heap news) (T : Top p loose mean mg mb h₀) (hk : cs.kind = .function) (hdp : dp + 60 < recursionLimit) (hun : un + 600 < cLine) (hl : (l, listOf vs.toArray c) ∈ news) (hi : IntsAre vs (dif k ns)) (hb : ns.length < 2 ^ 10) (h1 : 1 ≤ k) (h2 : k ≤ 3) (h3 : 2 ≤ b) (h4 : b ≤ 3) (hc : ¬ ns.length ≤ k * b) (hsm : Small 50 (dif k ns))
    (ret : ∀ l' ys c' h' tk', IntsAre ys (difs k b ns) → (∀ q ∈ news, q.1 < l') → Fr h₀ L h' m → News h₀ L h' ((l', listOf ys.toArray c') :: news) → Q (.ref l') { s with heap := h', toks := tk' }) :
    wpAny (model Challenge.pw_ov0077_01 w) (ktrTop dp un gd cn cs L a ccd cl outer) (call (.ref 529) [.ref l, .int (k : Int) ta, .int ((b : Int) - 1) tb]) Q E s :=
  told_goodI B F X N T hk hdp hun hl hi (by rw [dif_length]; omega) (by omega) (by omega) (by omega) (by omega) hsm fun l' ys c' h' tk' hy => ret l' ys c' h' tk' (by
    obtain ⟨d, rfl⟩ : ∃ d, b = d + 1 := ⟨b - 1, by omega⟩
    rw [Int.toNat_natCast, show ((d + 1 : Nat) : Int) - 1 = (d : Int) by omega, Int.toNat_natCast, dif_length, if_neg (by rw [Nat.mul_succ] at hc; omega), difs_succ'] at hy
    exact hy)
theorem neg_of {ys : List Value} {xs : List Int} (hl : ys.length = xs.length) (hy : ∀ (j : Nat) y, ys[j]? = some y → ∃ a t, y = .int (0 - a) t ∧ xs[j]? = some a) : IntsAre ys (xs.map fun x => 0 - x) := by
  refine ints_of_get (by rw [hl, List.length_map]) fun j y e => ?_
  obtain ⟨a, t, rfl, ha⟩ := hy j y e
  exact ⟨0 - a, t, by rw [List.getElem?_map, ha]; rfl, rfl⟩
end
section
local macro_rules | `(tactic| walk_at "call ref") => `(tactic| ((with_reducible show wpAny _ _ (call (Value.ref 529) _ _) _ _ _); refine rest_intro ?_))
local macro_rules | `(tactic| walk_at "call ref") => `(tactic| ((with_reducible show wpAny _ _ (call (Value.ref 508) _ _) _ _ _); k_dflt (refine' pebbles_spec (by k_asm) (by k_asm) (by k_asm) (by k_asm) (by k_asm) (by first | exact rfl | assumption) (by ktr_room) (by ktr_units) (by assumption) (by assumption) (by omega) ?_;  k_whole); intro _ _ _ _ _ _ _ _ lt9; intros; (try dsimp only); (try k_lt lt9); (try k_fold)))
local macro_rules | `(tactic| walk_at "call ref") => `(tactic| ((with_reducible show wpAny _ _ (call (Value.ref 522) _ _) _ _ _); k_dflt (refine' items_spec ?uB ?uF ?uX ?uN ?uT ?uK ?ud ?uu ?uU ?ui ?uf ?_; (case uB => k_asm); (case uF => k_asm); (case uX => k_asm); (case uN => k_asm); (case uT => k_asm); (case uK => first | exact rfl | assumption); (case ud => ktr_room); (case uu => ktr_units); (case uU => (intro v8 c8; k_upd)); (case ui => assumption); (case uf => omega); k_whole); intro _ _ _ _ _ _ _ _ _ _ _ _ lt9; intros; (try dsimp only); (try k_lt lt9); (try k_fold)))
local macro_rules | `(tactic| walk_at "call ref") => `(tactic| ((with_reducible show wpAny _ _ (call (Value.ref 515) _ _) _ _ _); k_dflt (refine' pebble_nat ?uB ?uF ?uX ?uN ?uT ?uK ?ud ?uu ?uU ?ui ?uf ?um ?um2 ?_; (case uB => k_asm); (case uF => k_asm); (case uX => k_asm); (case uN => k_asm); (case uT => k_asm); (case uK => first | exact rfl | assumption); (case ud => ktr_room); (case uu => ktr_units); (case uU => (intro v8 c8; k_upd)); (case ui => assumption); (case uf => omega); (case um => omega); (case um2 => omega); k_whole); walk_at "fin"))
local macro_rules | `(tactic| walk_at "binaryOp Add ref ref") => `(tactic| (k_here; (with_reducible show wpAny _ _ (binaryOp _ (Value.ref _) (Value.ref _)) _ _ _); k_dflt (first | refine' add_ints2 (by k_asm) (by k_asm) (by k_mem) (by k_mem) (by assumption) (by assumption) (by omega) ?_ | refine' add_items (by k_asm) (by k_asm) (by k_mem) (by k_mem) (by assumption) (by assumption) (by omega) ?_); intro D9 h9 F9 N9 lt9 hi9; (try k_lt lt9)))
local macro_rules | `(tactic| walk_at "call ref") => `(tactic| ((with_reducible show wpAny _ _ (call (Value.ref 487) _ _) _ _ _); k_dflt (refine' rle_spec2 (by k_asm) (by k_asm) (by k_asm) (by k_asm) (by k_asm) (by first | exact rfl | assumption) (by ktr_room) (by ktr_units) (by k_mem) (by k_mem) (by k_mem) (by assumption) (by omega) ?_;  k_whole); intro _ _ _ _ _ _ _ _ _ _ _ _ _ _ lt9 lt8 lt7; intros; (try dsimp only); (try k_lt lt9); (try k_lt2 lt8); (try k_lt2 lt7); (try k_fold)))
local macro_rules | `(tactic| walk_at "call ref") => `(tactic| ((with_reducible show wpAny _ _ (call (Value.ref 494) _ _) _ _ _); k_dflt (refine' inv_spec (by k_asm) (by k_asm) (by k_asm) (by k_asm) (by k_asm) (by first | exact rfl | assumption) (by ktr_room) (by ktr_units) (by k_mem) (by k_mem) (by k_mem) (by k_mem) (by k_mem) (by k_mem) (by assumption) (by omega) (by omega) (by assumption) ?_;  k_whole); intros; (try dsimp only); refine rest_intro ?_; (try k_fold)))
local macro_rules | `(tactic| walk_at "call ref") => `(tactic| ((with_reducible show wpAny _ _ (call (Value.ref 529) _ _) _ _ _); k_dflt (refine' told_goodI (by k_asm) (by k_asm) (by k_asm) (by k_asm) (by k_asm) (by first | exact rfl | assumption) (by ktr_room) (by ktr_units) (by k_mem) (by assumption) (by omega) (by omega) (by omega) (by omega) (by omega) (by assumption) ?_;  k_whole); intro _ _ _ _ _ _ lt9; intros; (try dsimp only); (try k_lt lt9); (try k_fold)))
local macro_rules | `(tactic| walk_at "call ref") => `(tactic| ((with_reducible show wpAny _ _ (call (Value.ref 529) _ _) _ _ _); k_dflt (refine' told_one (by k_asm) (by k_asm) (by k_asm) (by k_asm) (by k_asm) (by first | exact rfl | assumption) (by ktr_room) (by ktr_units) (by k_mem) (by assumption) (by omega) (by omega) (by omega) (by assumption) ?_;  k_whole); intro _ _ _ _ _ _ lt9; intros; (try dsimp only); (try k_lt lt9); (try k_fold)))
local macro_rules | `(tactic| walk_at "call ref") => `(tactic| ((with_reducible show wpAny _ _ (call (Value.ref 529) _ _) _ _ _); k_dflt (refine' told_11 (by k_asm) (by k_asm) (by k_asm) (by k_asm) (by k_asm) (by first | exact rfl | assumption) (by ktr_room) (by ktr_units) (by k_mem) (by assumption) (by omega) (by assumption) ?_;  k_whole); intro _ _ _ _ _ _ lt9; intros; (try dsimp only); (try k_lt lt9); (try k_fold)))
local macro_rules | `(tactic| walk_at "call ref") => `(tactic| ((with_reducible show wpAny _ _ (call (Value.ref 529) _ _) _ _ _); k_dflt (refine' told_rest (by k_asm) (by k_asm) (by k_asm) (by k_asm) (by k_asm) (by first | exact rfl | assumption) (by ktr_room) (by ktr_units) (by k_mem) (by assumption) (by omega) (by omega) (by omega) (by omega) (by omega) (by assumption) (by assumption) ?_;  k_whole); intro _ _ _ _ _ _ lt9; intros; (try dsimp only); (try k_lt lt9); (try k_fold)))
local macro_rules | `(tactic| walk_at "subscriptTail Name Slice ref ref") => `(tactic| (k_here; (with_reducible show wpAny _ _ (subscriptTail _ (PySem.Expr.Slice none none (some _) _) (Value.ref _) (Value.ref _)) _ _ _); k_dflt (refine' krv_ints (by k_asm) (by k_asm) (News.isList (by k_asm) (by k_mem)) (IsPart.int _ _) (by assumption) ?_ (by with_unfolding_all rfl) (by kmk_pure) (by rw [sizeLine_eq, List.size_toArray]; omega)); intro _ _ _ _ _ lt9; intros; (try k_lt lt9)))
theorem toNat_two (k j : Nat) : ((k : Int) + (j : Int)).toNat = k + j := by omega
theorem toNat_back (k j : Nat) : ((k : Int) + (j : Int) - (k : Int)).toNat = j := by omega
theorem toNat_last (n : Nat) (h : 1 ≤ n) : (-1 + (n : Int)).toNat = n - 1 := by omega
local macro_rules | `(tactic| omega) => `(tactic| first | with_reducible assumption | (with_reducible exact Ne.symm (by assumption)) | omega (config := {}))
theorem off1_mem {D : Addr} : ∀ {l : List (Addr × Obj)}, LCg.Off1 D l → ∀ p ∈ l, p.1 ≠ D
  | [], _, _, hp => absurd hp List.not_mem_nil
  | q :: r, h, p, hp => by
    rcases List.mem_cons.mp hp with rfl | hp
    · exact h.1
    · exact off1_mem h.2 p hp
def StopIf : Prop := True
local macro_rules | `(tactic| walk_at "exec If") => `(tactic| ((rename StopIf => hS); refine rest_intro ?_))
local macro_rules | `(tactic| walk_at "compareOp NotEq ref ref") => `(tactic| (k_here; (with_reducible show wpAny _ _ (compareOp CmpOp.NotEq (Value.ref _) (Value.ref _)) _ _ _); k_dflt (first
  | (refine' ne_itemsT (by k_asm) (by k_mem) (by k_mem) (by assumption) (by first | exact ItemsAre.nil | assumption) (by units_room) (by assumption) ?_; k_whole)
  | (refine' ne_itemsF (by k_asm) (by k_mem) (by k_mem) (by assumption) (by first | exact ItemsAre.nil | assumption) (by units_room) (by first | assumption | exact rfl) ?_; k_whole))))
local macro_rules | `(tactic| walk_at "subscriptTail") => `(tactic| (k_here; (with_reducible show wpAny _ _ (subscriptTail _ _ (Value.ref _) (Value.int _ _)) _ _ _); k_dflt (refine item_gen (by k_asm) (by k_mem) (by omega) (by omega) (by omega) ?_); intro v9 hv9))
local macro_rules | `(tactic| walk_at "subscriptTail") => `(tactic| (k_here; (with_reducible show wpAny _ _ (subscriptTail _ _ (Value.ref _) (Value.int _ _)) _ _ _); k_dflt (refine item_int (by k_asm) (by k_mem) (by assumption) (by omega) (by omega) (by omega) ?_); intro n9 t9 hn9))
local macro_rules | `(tactic| walk_at "subscriptTail") => `(tactic| (k_here; (with_reducible show wpAny _ _ (subscriptTail _ _ (Value.ref _) (Value.int (-1) _)) _ _ _); k_dflt (refine item_last (by k_asm) (by k_mem) (by assumption) (by omega) ?_)))
local macro_rules | `(tactic| walk_at "subscriptTail") => `(tactic| (k_here; (with_reducible show wpAny _ _ (subscriptTail _ _ (Value.ref _) (Value.int 0 _)) _ _ _); k_dflt (refine item_first (by k_asm) (by k_mem) (by assumption) (by omega) ?_)))
local macro_rules | `(tactic| walk_at "subscriptTail Name Slice ref ref") => `(tactic| (k_here; (with_reducible show wpAny _ _ (subscriptTail _ (PySem.Expr.Slice _ _ none _) (Value.ref _) (Value.ref _)) _ _ _); k_dflt (refine' kmk_slice_ints (by k_asm) (by k_asm) (News.isList (by k_asm) (by k_mem)) (by kmk_part) (by kmk_part) (by assumption) (by first | exact kmk_upto_neg (by assumption) (by decide) | exact kmk_from (by assumption) (by decide)) rfl ?_ (by with_unfolding_all rfl) (by kmk_pure) (by rw [sizeLine_eq, List.size_toArray]; omega)); intro _ _ _ _ _ lt9; intros; (try k_lt lt9)))
local macro_rules | `(tactic| walk_at "compareOp Eq int int") => `(tactic| (k_here; (with_reducible show wpAny _ _ (compareOp CmpOp.Eq (Value.int _ _) (Value.int _ _)) _ _ _); k_dflt (first | (refine eq_intT rfl ?_) | (refine eq_intF (by assumption) ?_))))
local macro_rules | `(tactic| walk_at "compareOp NotEq ref ref") => `(tactic| (k_here; (with_reducible show wpAny _ _ (compareOp CmpOp.NotEq (Value.ref _) (Value.ref _)) _ _ _); k_dflt (refine' ne_intsF (by k_asm) (by k_mem) (by k_mem) (by assumption) (by first | assumption | exact IntsAre.nil) (by units_room) (by first | assumption | exact rfl) ?_; k_whole)))
local macro_rules | `(tactic| walk_at "compareOp NotEq int int") => `(tactic| (k_here; (with_reducible show wpAny _ _ (compareOp CmpOp.NotEq (Value.int _ _) (Value.int _ _)) _ _ _); k_dflt (refine ne_intF (by assumption) ?_)))
local macro_rules | `(tactic| walk_at "eval ListComp") => `(tactic| (k_here; k_dflt (refine listcomp_rest (F₀ := by k_asm) (by with_unfolding_all rfl) (by decide) (by rfl) (by decide) (by rfl) ?_)))
local macro_rules | `(tactic| walk_at "compareOp Lt int int") => `(tactic| (k_here; (with_reducible show wpAny _ _ (compareOp CmpOp.Lt (Value.int _ _) (Value.int _ _)) _ _ _); k_dflt (first | (refine lt_intT (by assumption) ?_) | (refine lt_intF (by assumption) ?_))))
local macro_rules | `(tactic| walk_at "compareOp Gt int int") => `(tactic| (k_here; (with_reducible show wpAny _ _ (compareOp CmpOp.Gt (Value.int _ _) (Value.int _ _)) _ _ _); k_dflt (first | (refine gt_intT (by assumption) ?_) | (refine gt_intF (by assumption) ?_))))
local macro_rules | `(tactic| walk_at "compareOp Eq ref ref") => `(tactic| (k_here; (with_reducible show wpAny _ _ (compareOp CmpOp.Eq (Value.ref _) (Value.ref _)) _ _ _); k_dflt (refine' eq_intsT (by k_asm) (by k_mem) (by k_mem) (by assumption) (by first | assumption | exact IntsAre.nil) (by units_room) (by first | assumption | exact rfl) ?_; k_whole)))
def StopEq : Prop := True
def StopSl : Prop := True
local macro_rules | `(tactic| walk_at "eval Slice") => `(tactic| ((rename StopSl => hS); (clear hS); refine rest_intro ?_))
local macro_rules | `(tactic| walk_at "subscriptTail") => `(tactic| ((rename StopEq => hS); refine rest_intro ?_))
local macro_rules | `(tactic| walk_at "subscriptTail ListComp Slice ref ref") => `(tactic| ((rename StopEq => hS); refine rest_intro ?_))
local macro_rules | `(tactic| walk_at "compareOp Eq ref ref") => `(tactic| ((rename StopEq => hS); (clear hS); refine rest_intro ?_))
theorem turn_off {own : List (Addr × Obj)} {D D3 : Addr} {o o3 : Obj} {l : List (Addr × Obj)} {c c2 : Addr × Obj} {q1 q2 q4 q5 : Addr × Obj} (ho : OwnOff own (((D3, o3) :: q1 :: q2 :: (c.1, c.2) :: q4 :: q5 :: l).map (·.1))) (h : ∀ p ∈ own, p.1 ≠ D) (e : c2.1 = c.1 := by rfl) : OwnOff own (((D, o) :: q1 :: q2 :: c2 :: q4 :: q5 :: l).map (·.1)) := by
  intro p hp b hb
  rcases List.mem_cons.mp hb with rfl | hb
  · exact h p hp
  · refine ho p hp b (List.mem_cons_of_mem _ ?_)
    simp only [List.map_cons, e] at hb ⊢
    exact hb
theorem turn_in {D : Addr × Obj} {D3 : Addr × Obj} {q1 q2 q3 q4 q5 : Addr × Obj} {own : List (Addr × Obj)} {p : Addr × Obj} (hp : p ∈ [D, q1, q2, q3, q4, q5]) : p ∈ D :: D3 :: q1 :: q2 :: q3 :: q4 :: q5 :: own := by
  rcases List.mem_cons.mp hp with rfl | hp
  · exact .head _
  · exact .tail _ (.tail _ (List.mem_append.mpr (.inl hp)))

theorem hd.tw5089847521404142353 : True := trivial
theorem hd.tw15068483726869450994 : True := trivial
theorem hd.tw14243000110752803332 : True := trivial
theorem hd.tw6324589003567309517 : True := trivial
theorem hd.tw3039998526598829958 : True := trivial
theorem hd.tw3745690144162935717 : True := trivial
theorem hd.tw8662294711777555239 : True := trivial
theorem hd.tw4365409018781482717 : True := trivial
theorem hd.tw11975651509544506050 : True := trivial
theorem hd.tw16423778844049440615 : True := trivial
theorem hd.tw12466765086073231767 : True := trivial
theorem hd.tw3947710232987724695 : True := trivial
theorem hd.tw11778180911958503814 : True := trivial
theorem hd.tw3085183777334472315 : True := trivial
theorem hd.tw16160664900817543922 : True := trivial
theorem hd.tw6261307160684272075 : True := trivial
theorem hd.tw13226831279740221567 : True := trivial
theorem hd.tw18241275227582772068 : True := trivial
theorem hd.tw10090067676359358454 : True := trivial
theorem hd.tw4282304852377368616 : True := trivial
theorem hd.tw185848376630758926 : True := trivial
theorem hd.tw6924109203229866365 : True := trivial
theorem hd.tw265207839604002054 : True := trivial
theorem hd.tw5036846961687405229 : True := trivial
theorem hd.tw7155415327029175403 : True := trivial
theorem hd.tw15368132723985388332 : True := trivial
theorem hd.tw9277588360372424766 : True := trivial
theorem hd.tw18264374347568628810 : True := trivial
theorem hd.tw6931407450589930559 : True := trivial
theorem hd.tw17001982702790524580 : True := trivial
theorem hd.tw2167537188350426706 : True := trivial
theorem hd.tw17330945745186091897 : True := trivial
theorem hd.tw13855946660403688772 : True := trivial
theorem hd.tw5292301768408028288 : True := trivial
theorem hd.tw10919297434634762262 : True := trivial
theorem hd.tw5716766192118558609 : True := trivial
theorem hd.tw10246146449241189800 : True := trivial
theorem hd.tw15615420239508185596 : True := trivial
theorem hd.tw13285133528070534704 : True := trivial
theorem hd.tw2304311442786299043 : True := trivial
theorem hd.tw6423634429210846174 : True := trivial
theorem hd.tw15220180469806662145 : True := trivial
theorem hd.tw4856431653887292112 : True := trivial
theorem hd.tw8068729725432388964 : True := trivial
theorem hd.tw13893168526513508166 : True := trivial
theorem hd.tw7654286748164834634 : True := trivial
theorem hd.tw4297731678662094536 : True := trivial
theorem hd.tw17986969038992634876 : True := trivial
theorem hd.tw6547078798241139092 : True := trivial
theorem hd.tw2252305205657439004 : True := trivial
theorem hd.tw3429492842335990350 : True := trivial
theorem hd.tw11713075325732132258 : True := trivial
theorem hd.tw16171809288044610508 : True := trivial
theorem hd.tw16011055738799735888 : True := trivial
theorem hd.tw7610815399733428385 : True := trivial
theorem hd.tw18293851220164018083 : True := trivial
theorem hd.tw3026753882482905222 : True := trivial
theorem hd.tw14553816603554493358 : True := trivial
theorem hd.tw9533747618267967006 : True := trivial
theorem hd.tw7068711184596962023 : True := trivial
theorem hd.tw5009564483982726761 : True := trivial
theorem hd.tw3451239065008710300 : True := trivial
theorem hd.tw15852365999677673905 : True := trivial
theorem hd.tw8047900516022102942 : True := trivial
theorem hd.tw17258206423299326598 : True := trivial
theorem hd.tw9228397985900620932 : True := trivial
theorem hd.tw12647368939536790636 : True := trivial
theorem hd.tw15813434630575017362 : True := trivial
theorem hd.tw17919194246423945575 : True := trivial
theorem hd.tw14960593345356199642 : True := trivial
theorem hd.tw3259873300814134281 : True := trivial
theorem hd.tw1197925565968671727 : True := trivial
theorem hd.tw15089522573102190283 : True := trivial
theorem hd.tw1359830224848277088 : True := trivial
theorem hd.tw6528754448969337418 : True := trivial
theorem hd.tw442638132926106271 : True := trivial
theorem hd.tw8228950375871286339 : True := trivial
theorem hd.tw10752148897807903841 : True := trivial
theorem hd.tw2386827423013361158 : True := trivial
theorem hd.tw11709330566771433103 : True := trivial
theorem hd.tw4159134105002834734 : True := trivial
theorem hd.tw17739348878880393726 : True := trivial
theorem hd.tw17711083657039698284 : True := trivial
theorem hd.tw15411387601460861337 : True := trivial
theorem hd.tw10403243965636340961 : True := trivial
theorem hd.tw12614811148066621264 : True := trivial
theorem hd.tw7510230149288206974 : True := trivial
theorem hd.tw12058812876911547015 : True := trivial
theorem hd.tw15367242080415987702 : True := trivial
theorem hd.tw6868836192036940282 : True := trivial
theorem hd.tw1848646778235469078 : True := trivial
theorem hd.tw17714235663813219645 : True := trivial
theorem hd.tw15508949281206285077 : True := trivial
theorem hd.tw8977307856219701671 : True := trivial
theorem hd.tw8226494294326810461 : True := trivial
theorem hd.tw9499510787657705874 : True := trivial
theorem hd.tw13181700845877081190 : True := trivial
theorem hd.tw6438293893037913957 : True := trivial
theorem hd.tw17672654358674132775 : True := trivial
theorem hd.tw11754176132448286083 : True := trivial
theorem hd.tw15910714762333108613 : True := trivial
theorem hd.tw2603259988358896889 : True := trivial
theorem hd.tw15422856539912107476 : True := trivial
theorem hd.tw2457190517430149469 : True := trivial
theorem hd.tw8735263284916673568 : True := trivial
theorem hd.tw17562767543260142214 : True := trivial
theorem hd.tw8671608845466749128 : True := trivial
theorem hd.tw1011335219593555734 : True := trivial
theorem hd.tw8727321023445011275 : True := trivial
theorem hd.tw13790719812936386609 : True := trivial
theorem hd.tw8716120427605611371 : True := trivial
theorem hd.tw2329189449893159454 : True := trivial
theorem hd.tw6982297934935202809 : True := trivial
theorem hd.tw14892549342360969540 : True := trivial
theorem hd.tw9345929723534960622 : True := trivial
theorem hd.tw3571134770919094901 : True := trivial
theorem hd.tw13466754112058979494 : True := trivial
theorem hd.tw5987830557187376847 : True := trivial
theorem hd.tw5657824000916062451 : True := trivial
theorem hd.tw9702936160620672325 : True := trivial
theorem hd.tw9386895884608548742 : True := trivial
theorem hd.tw11032806212648032379 : True := trivial
theorem hd.tw14346525914970070588 : True := trivial
theorem hd.tw16970440968685349367 : True := trivial
theorem hd.tw3694398316872202419 : True := trivial
theorem hd.tw11631947586910100387 : True := trivial
theorem hd.tw15603535497565009323 : True := trivial
theorem hd.tw189712035060473897 : True := trivial
theorem hd.tw9398405308114057262 : True := trivial
theorem hd.tw17893044597097874663 : True := trivial
theorem hd.tw11631869004601391166 : True := trivial
theorem hd.tw8428860471423672150 : True := trivial
theorem hd.tw17681399029576232318 : True := trivial
theorem hd.tw17574625026820762457 : True := trivial
theorem hd.tw7355570028127101125 : True := trivial
theorem hd.tw8789358453043137523 : True := trivial
theorem hd.tw4225703048834024713 : True := trivial
theorem hd.tw3381375190539634487 : True := trivial
theorem hd.tw402640490398009360 : True := trivial
theorem hd.tw8516288146210602744 : True := trivial
theorem hd.tw12936449754285732098 : True := trivial
theorem hd.tw280609765759037681 : True := trivial
theorem hd.tw15683763237869141255 : True := trivial
theorem hd.tw12901994302517312135 : True := trivial
theorem hd.tw16634568088961857937 : True := trivial
theorem hd.tw12113243949977362033 : True := trivial
theorem hd.tw978945382295711627 : True := trivial
theorem hd.tw4086058157674990017 : True := trivial
theorem hd.tw7270182246851987180 : True := trivial
theorem hd.tw1439246655266547700 : True := trivial
theorem hd.tw17213754286329925777 : True := trivial
theorem hd.tw8457440626546761165 : True := trivial
theorem hd.tw15616948245753086127 : True := trivial
theorem hd.tw17387473266821786944 : True := trivial
theorem hd.tw13855881374063213867 : True := trivial
theorem hd.tw12271959270614036898 : True := trivial
theorem hd.tw3915529967508079626 : True := trivial
theorem hd.tw11128854368766332075 : True := trivial
theorem hd.tw14353793391729792155 : True := trivial
theorem hd.tw15642763164714097627 : True := trivial
theorem hd.tw2867327485932766208 : True := trivial
theorem hd.tw1129884963351977449 : True := trivial
theorem hd.tw6442067068224118133 : True := trivial
theorem hd.tw22551697357593593 : True := trivial
theorem hd.tw8381844023166312768 : True := trivial
theorem hd.tw11232374478483605306 : True := trivial
theorem hd.tw4115565904173853331 : True := trivial
theorem hd.tw10784824025267889561 : True := trivial
theorem hd.tw6820862383352777685 : True := trivial
theorem hd.tw519851828213033955 : True := trivial
theorem hd.tw13330244855972007585 : True := trivial
theorem hd.tw14705683404202351889 : True := trivial
theorem hd.tw14955159897011116063 : True := trivial
theorem hd.tw9673543361469618366 : True := trivial
theorem hd.tw3443669649825651883 : True := trivial
theorem hd.tw17843490464661113860 : True := trivial
theorem hd.tw3480954088277226078 : True := trivial
theorem hd.tw6123773746684550334 : True := trivial
theorem hd.tw14560493823538711346 : True := trivial
theorem hd.tw5505005885091257285 : True := trivial
theorem hd.tw14598272352848978880 : True := trivial
theorem hd.tw11953376511379268794 : True := trivial
theorem hd.tw6291416237084387574 : True := trivial
theorem hd.tw5961118342813265553 : True := trivial
theorem hd.tw7540741092611519060 : True := trivial
theorem hd.tw16006246977917349235 : True := trivial
theorem hd.tw13783031573616600631 : True := trivial
theorem hd.tw11465210709893060100 : True := trivial
theorem hd.tw1836080755315867724 : True := trivial
theorem hd.tw4706079058837389440 : True := trivial
theorem hd.tw3442329435671937591 : True := trivial
theorem hd.tw8004679753235328684 : True := trivial
theorem hd.tw1847840615245081061 : True := trivial
theorem hd.tw5562173858411828344 : True := trivial
theorem hd.tw1194904439430580092 : True := trivial
theorem hd.tw15083628210047938546 : True := trivial
theorem hd.tw4402725079659364252 : True := trivial
theorem hd.tw7028611270464810887 : True := trivial
theorem hd.tw7534799579077118603 : True := trivial
theorem hd.tw12092154237167983948 : True := trivial
theorem hd.tw13642289790063256904 : True := trivial
theorem hd.tw13903934854276604550 : True := trivial
theorem hd.tw2788664435532181463 : True := trivial
theorem hd.tw12602439190401603521 : True := trivial
theorem hd.tw8356816923877370021 : True := trivial
theorem hd.tw18291419657060728153 : True := trivial
theorem hd.tw17087091549796120035 : True := trivial
theorem hd.tw14980023328507725902 : True := trivial
theorem hd.tw9244321171653502345 : True := trivial
theorem hd.tw845060206244984605 : True := trivial
theorem hd.tw18093812233618175256 : True := trivial
theorem hd.tw14103535550066685397 : True := trivial
theorem hd.tw6906073325868019850 : True := trivial
theorem hd.tw9430268157657104642 : True := trivial
theorem hd.tw2051048951616859547 : True := trivial
theorem hd.tw13368278939475635651 : True := trivial
theorem hd.tw1452849714261714991 : True := trivial
theorem hd.tw12588582704262371052 : True := trivial
theorem hd.tw17599816209265215132 : True := trivial
theorem hd.tw1222794163293265305 : True := trivial
theorem hd.tw6998783941825042932 : True := trivial
theorem hd.tw5629675986466331604 : True := trivial
theorem hd.tw10404513684093684653 : True := trivial
theorem hd.tw10030107230732127627 : True := trivial
theorem hd.tw16477043939570097188 : True := trivial
theorem hd.tw18343703819029505601 : True := trivial
theorem hd.tw6264232113106981867 : True := trivial
theorem hd.tw17420951861521290806 : True := trivial
theorem hd.tw10170382586518783626 : True := trivial
theorem hd.tw13315533130655954831 : True := trivial
theorem hd.tw15166520500009309586 : True := trivial
theorem hd.tw2887051446865420828 : True := trivial
theorem hd.tw5608270528595127837 : True := trivial
theorem hd.tw10879034167726328663 : True := trivial
theorem hd.tw3795277891434052102 : True := trivial
theorem hd.tw15987713032478767096 : True := trivial
theorem hd.tw7023726343779634624 : True := trivial
theorem hd.tw16037735763661986305 : True := trivial
theorem hd.tw16794629799341752650 : True := trivial
theorem hd.tw17950676927832955104 : True := trivial
theorem hd.tw6838551448383532254 : True := trivial
theorem hd.tw18245042118932799458 : True := trivial
theorem hd.tw8117029840178788049 : True := trivial
theorem hd.tw7676003278276379012 : True := trivial
theorem hd.tw4383666589626881386 : True := trivial
theorem hd.tw4015398097383911347 : True := trivial
theorem hd.tw16029623286316568529 : True := trivial
theorem hd.tw3452082135128663414 : True := trivial
theorem hd.tw3646829019195819677 : True := trivial
theorem hd.tw16432713993328977331 : True := trivial
theorem hd.tw1506431575118746342 : True := trivial
theorem hd.tw728884934406724761 : True := trivial
theorem hd.tw3919010098100093602 : True := trivial
theorem hd.tw11389486352061984695 : True := trivial
theorem hd.tw4172343393113369950 : True := trivial
theorem hd.tw17903497710992402801 : True := trivial
theorem hd.tw7914949630228597729 : True := trivial
theorem hd.tw14457593812595234344 : True := trivial
theorem hd.tw1013155817946168525 : True := trivial
theorem hd.tw14168552714766633299 : True := trivial
theorem hd.tw16194383521188589630 : True := trivial
theorem hd.tw1610171440888473627 : True := trivial
theorem hd.tw13289513938125300765 : True := trivial
theorem hd.tw2799067240506288376 : True := trivial
theorem hd.tw5567388512258382067 : True := trivial
theorem hd.tw10258999931320997221 : True := trivial
theorem hd.tw18322514126500204803 : True := trivial
theorem hd.tw5148922909946612681 : True := trivial
theorem hd.tw6407587892757256292 : True := trivial
theorem hd.tw11011131195910976488 : True := trivial
theorem hd.tw9641152695372364146 : True := trivial
theorem hd.tw7082855905992002993 : True := trivial
theorem hd.tw541196102884509978 : True := trivial
theorem hd.tw11251137523995926341 : True := trivial
theorem hd.tw14727110085682223627 : True := trivial
theorem hd.tw16299908979028503884 : True := trivial
theorem hd.tw12399718760709695909 : True := trivial
theorem hd.tw3493717111155160527 : True := trivial
theorem hd.tw6082411064634330575 : True := trivial
theorem hd.tw13225837485096350037 : True := trivial
theorem hd.tw4014540891139286612 : True := trivial
theorem hd.tw1409312971732116557 : True := trivial
theorem hd.tw15344866539931968096 : True := trivial
theorem hd.tw15946388913382835224 : True := trivial
theorem hd.tw991583007596301734 : True := trivial
theorem hd.tw11151547217846952531 : True := trivial
theorem hd.tw11513968764499736323 : True := trivial
theorem hd.tw3828038474966422129 : True := trivial
theorem hd.tw7296583596125217682 : True := trivial
theorem hd.tw5238241317806426387 : True := trivial
theorem hd.tw7754304195085646258 : True := trivial
theorem hd.tw2195365466389143174 : True := trivial
theorem hd.tw16345102440705955213 : True := trivial
theorem hd.tw6759412095888398321 : True := trivial
theorem hd.tw1241404454085649124 : True := trivial
theorem hd.tw8960069828448710407 : True := trivial
theorem hd.tw11660266114150955751 : True := trivial
theorem hd.tw13770079208771991547 : True := trivial
theorem hd.tw5635641802508607975 : True := trivial
theorem hd.tw11652457597714270106 : True := trivial
theorem hd.tw4494801613693538912 : True := trivial
theorem hd.tw18267165475114343361 : True := trivial
theorem hd.tw7289634563603522867 : True := trivial
theorem hd.tw2999033326186475339 : True := trivial
theorem hd.tw18166333605607142505 : True := trivial
theorem hd.tw16772102934027710169 : True := trivial
theorem hd.tw2442259710966052079 : True := trivial
theorem hd.tw16920754564084929960 : True := trivial
theorem hd.tw5363564295841288755 : True := trivial
theorem hd.tw2101469004524951375 : True := trivial
theorem hd.tw17948085552500728524 : True := trivial
theorem hd.tw17975533764899295144 : True := trivial
theorem hd.tw7120233287515763914 : True := trivial
theorem hd.tw9719896912496429819 : True := trivial
theorem hd.tw3673089383077640791 : True := trivial
theorem hd.tw15527848837575444561 : True := trivial
theorem hd.tw6785817131721698500 : True := trivial
theorem hd.tw6276725880618359904 : True := trivial
theorem hd.tw162610821266807592 : True := trivial
theorem hd.tw12949589719889679912 : True := trivial
theorem hd.tw8134915037123179040 : True := trivial
theorem hd.tw2502866573005156581 : True := trivial
theorem hd.tw8458067239894703972 : True := trivial
theorem hd.tw10583446816852156582 : True := trivial
theorem hd.tw15790720579355451973 : True := trivial
theorem hd.tw16904818350239718627 : True := trivial
theorem hd.tw5278057926702712004 : True := trivial
theorem hd.tw13321331477185743149 : True := trivial
theorem hd.tw2708950531961675432 : True := trivial
theorem hd.tw11054480109507316185 : True := trivial
theorem hd.tw10792051664901133789 : True := trivial
theorem hd.tw16259696140248634718 : True := trivial
theorem hd.tw13267510147771200024 : True := trivial
theorem hd.tw13828106393651249627 : True := trivial
theorem hd.tw6019021122589006684 : True := trivial
set_option maxHeartbeats 0 in
set_option Elab.async true in
theorem hd : PySem.Challenge.rw_ov0077_01.Holds := by
  w_on
  o_law
  o_head (kHook frag.heap_1 (nat_lit 2 :: nat_lit 3 :: nat_lit 15 :: nat_lit 17 :: nat_lit 18 :: nat_lit 20 :: nat_lit 21 :: nat_lit 22 :: nat_lit 29 :: nat_lit 30 :: nat_lit 31 :: nat_lit 32 :: nat_lit 35 :: nat_lit 42 :: nat_lit 44 :: nat_lit 45 :: nat_lit 47 :: nat_lit 48 :: nat_lit 49 :: nat_lit 50 :: nat_lit 51 :: nat_lit 61 :: nat_lit 62 :: nat_lit 64 :: nat_lit 65 :: nat_lit 67 :: nat_lit 68 :: nat_lit 69 :: nat_lit 71 :: nat_lit 72 :: nat_lit 74 :: nat_lit 75 :: nat_lit 76 :: nat_lit 77 :: nat_lit 78 :: nat_lit 79 :: nat_lit 80 :: nat_lit 83 :: nat_lit 85 :: nat_lit 86 :: nat_lit 88 :: nat_lit 89 :: nat_lit 90 :: nat_lit 92 :: nat_lit 93 :: nat_lit 95 :: nat_lit 96 :: nat_lit 97 :: nat_lit 99 :: nat_lit 100 :: nat_lit 102 :: nat_lit 103 :: nat_lit 104 :: nat_lit 106 :: nat_lit 107 :: nat_lit 109 :: nat_lit 110 :: nat_lit 111 :: nat_lit 113 :: nat_lit 114 :: nat_lit 116 :: nat_lit 117 :: nat_lit 118 :: nat_lit 120 :: nat_lit 121 :: nat_lit 123 :: nat_lit 124 :: nat_lit 125 :: nat_lit 127 :: nat_lit 128 :: nat_lit 130 :: nat_lit 131 :: nat_lit 132 :: nat_lit 134 :: nat_lit 135 :: nat_lit 137 :: nat_lit 138 :: nat_lit 139 :: nat_lit 142 :: nat_lit 143 :: nat_lit 144 :: nat_lit 147 :: nat_lit 148 :: nat_lit 149 :: nat_lit 151 :: nat_lit 152 :: nat_lit 154 :: nat_lit 155 :: nat_lit 156 :: nat_lit 159 :: nat_lit 160 :: nat_lit 161 :: nat_lit 163 :: nat_lit 164 :: nat_lit 166 :: nat_lit 167 :: nat_lit 168 :: nat_lit 169 :: nat_lit 170 :: nat_lit 171 :: nat_lit 172 :: nat_lit 174 :: nat_lit 175 :: nat_lit 177 :: nat_lit 178 :: nat_lit 179 :: nat_lit 181 :: nat_lit 182 :: nat_lit 184 :: nat_lit 185 :: nat_lit 186 :: nat_lit 188 :: nat_lit 189 :: nat_lit 191 :: nat_lit 192 :: nat_lit 193 :: nat_lit 195 :: nat_lit 196 :: nat_lit 198 :: nat_lit 199 :: nat_lit 200 :: nat_lit 202 :: nat_lit 203 :: nat_lit 205 :: nat_lit 206 :: nat_lit 207 :: nat_lit 209 :: nat_lit 210 :: nat_lit 212 :: nat_lit 213 :: nat_lit 214 :: nat_lit 216 :: nat_lit 217 :: nat_lit 219 :: nat_lit 220 :: nat_lit 221 :: nat_lit 223 :: nat_lit 224 :: nat_lit 226 :: nat_lit 227 :: nat_lit 228 :: nat_lit 230 :: nat_lit 231 :: nat_lit 233 :: nat_lit 234 :: nat_lit 235 :: nat_lit 237 :: nat_lit 238 :: nat_lit 240 :: nat_lit 241 :: nat_lit 242 :: nat_lit 244 :: nat_lit 245 :: nat_lit 247 :: nat_lit 248 :: nat_lit 249 :: nat_lit 251 :: nat_lit 252 :: nat_lit 254 :: nat_lit 255 :: nat_lit 256 :: nat_lit 258 :: nat_lit 259 :: nat_lit 261 :: nat_lit 262 :: nat_lit 263 :: nat_lit 265 :: nat_lit 266 :: nat_lit 268 :: nat_lit 269 :: nat_lit 270 :: nat_lit 272 :: nat_lit 273 :: nat_lit 275 :: nat_lit 276 :: nat_lit 277 :: nat_lit 279 :: nat_lit 280 :: nat_lit 282 :: nat_lit 283 :: nat_lit 284 :: nat_lit 286 :: nat_lit 287 :: nat_lit 289 :: nat_lit 290 :: nat_lit 291 :: nat_lit 293 :: nat_lit 294 :: nat_lit 296 :: nat_lit 297 :: nat_lit 298 :: nat_lit 300 :: nat_lit 301 :: nat_lit 303 :: nat_lit 304 :: nat_lit 305 :: nat_lit 307 :: nat_lit 308 :: nat_lit 310 :: nat_lit 311 :: nat_lit 312 :: nat_lit 314 :: nat_lit 315 :: nat_lit 317 :: nat_lit 318 :: nat_lit 319 :: nat_lit 321 :: nat_lit 322 :: nat_lit 324 :: nat_lit 325 :: nat_lit 326 :: nat_lit 328 :: nat_lit 329 :: nat_lit 331 :: nat_lit 332 :: nat_lit 333 :: nat_lit 335 :: nat_lit 336 :: nat_lit 338 :: nat_lit 339 :: nat_lit 340 :: nat_lit 342 :: nat_lit 343 :: nat_lit 345 :: nat_lit 346 :: nat_lit 347 :: nat_lit 349 :: nat_lit 350 :: nat_lit 352 :: nat_lit 353 :: nat_lit 354 :: nat_lit 356 :: nat_lit 357 :: nat_lit 359 :: nat_lit 360 :: nat_lit 361 :: nat_lit 363 :: nat_lit 364 :: nat_lit 366 :: nat_lit 367 :: nat_lit 368 :: nat_lit 370 :: nat_lit 371 :: nat_lit 373 :: nat_lit 374 :: nat_lit 375 :: nat_lit 377 :: nat_lit 378 :: nat_lit 380 :: nat_lit 381 :: nat_lit 382 :: nat_lit 384 :: nat_lit 385 :: nat_lit 387 :: nat_lit 388 :: nat_lit 389 :: nat_lit 391 :: nat_lit 392 :: nat_lit 394 :: nat_lit 395 :: nat_lit 396 :: nat_lit 398 :: nat_lit 399 :: nat_lit 401 :: nat_lit 402 :: nat_lit 403 :: nat_lit 405 :: nat_lit 406 :: nat_lit 408 :: nat_lit 409 :: nat_lit 410 :: nat_lit 412 :: nat_lit 413 :: nat_lit 415 :: nat_lit 416 :: nat_lit 417 :: nat_lit 420 :: nat_lit 421 :: nat_lit 422 :: nat_lit 424 :: nat_lit 425 :: nat_lit 427 :: nat_lit 428 :: nat_lit 429 :: nat_lit 432 :: nat_lit 433 :: nat_lit 434 :: nat_lit 436 :: nat_lit 437 :: nat_lit 439 :: nat_lit 440 :: nat_lit 441 :: nat_lit 443 :: nat_lit 444 :: nat_lit 446 :: nat_lit 447 :: nat_lit 448 :: nat_lit 451 :: nat_lit 452 :: nat_lit 453 :: nat_lit 455 :: nat_lit 456 :: nat_lit 458 :: nat_lit 459 :: nat_lit 460 :: nat_lit 462 :: nat_lit 463 :: nat_lit 465 :: nat_lit 466 :: nat_lit 467 :: nat_lit 469 :: nat_lit 470 :: nat_lit 472 :: nat_lit 473 :: nat_lit 474 :: nat_lit 476 :: nat_lit 477 :: nat_lit 479 :: nat_lit 480 :: nat_lit 481 :: nat_lit 483 :: nat_lit 484 :: nat_lit 486 :: nat_lit 487 :: nat_lit 488 :: nat_lit 490 :: nat_lit 491 :: nat_lit 493 :: nat_lit 494 :: nat_lit 495 :: nat_lit 497 :: nat_lit 498 :: nat_lit 500 :: nat_lit 501 :: nat_lit 502 :: nat_lit 504 :: nat_lit 505 :: nat_lit 507 :: nat_lit 508 :: nat_lit 509 :: nat_lit 511 :: nat_lit 512 :: nat_lit 514 :: nat_lit 515 :: nat_lit 516 :: nat_lit 518 :: nat_lit 519 :: nat_lit 521 :: nat_lit 522 :: nat_lit 523 :: nat_lit 525 :: nat_lit 526 :: nat_lit 528 :: nat_lit 529 :: nat_lit 530 :: nat_lit 533 :: nat_lit 534 :: []) (fun _ => by kernel_rfl))
  case hw => w_witness2
  k_go0
  all_goals try k_fold
  have kMk : KstMark := kstMark
  have hStop : StopIf := trivial
  k_steps
  rename_i wA _ sA _ _ _ _ _ _ _ _ _ _ _ _ _ _ _ _ _ _ _ _ _ _ _ _ _ _ _ _ _ _ _ _ _ _ _ _ _ _ _ _ _ _ _ _ _ _ _ _ _ _ _ _ _ _ _ _ _ _ _ _ _ _ _ _ _ _ _ _ _ _ lo vo oo co _ _ _ _ _ hio hlo hko _ _ ltO _ _ kl tkl _ _ _ _ _ wkl _ _ _ _ _ ol dcl kt tkt _ _ _ _ _ wkt _ _ _ _ lf vf ofs cf _ _ _ _ _ hif hlf hkf _ _ ltF _ _ ls vs oss cs _ _ _ _ _ his hls hks _ _ ltS _ _ _ _ _ _ _ _ _ _ _ _ _ _ la1 _ _ y1 _ c1a _ _ _ hy1 _ ry1 _ lt1 _ _ _ _ _ _ _ _ _ _ _ _ _ _ _ _ la2 _ _ y2 _ c2a _ _ _ hy2 _ ry2 _ lt2 _ _ _ tj lj _ hij ltJ xj dj j1 j2 j3 j4 j5 _ _ ltD ltX _ oj dcj ld _ hid ltd _ od F9 N9 dcd
  (rename StopIf => hStop; clear hStop)
  have hlvf := hif.length
  have hlvs := his.length
  have N8 := (News.one (q := (ld, _)) N9 (by repeat (first | exact List.Mem.head _ | apply List.Mem.tail)) (News.one (q := (xj, _)) N9 (by repeat (first | exact List.Mem.head _ | apply List.Mem.tail)) (News.one (q := (dj, _)) N9 (by repeat (first | exact List.Mem.head _ | apply List.Mem.tail)) (News.one (q := (lj, _)) N9 (by repeat (first | exact List.Mem.head _ | apply List.Mem.tail)) (News.one (q := (la2, _)) N9 (by repeat (first | exact List.Mem.head _ | apply List.Mem.tail)) (News.one (q := (la1, _)) N9 (by repeat (first | exact List.Mem.head _ | apply List.Mem.tail)) (News.one (q := (ls, _)) N9 (by repeat (first | exact List.Mem.head _ | apply List.Mem.tail)) (News.one (q := (lf, _)) N9 (by repeat (first | exact List.Mem.head _ | apply List.Mem.tail)) (News.one (q := (lo, _)) N9 (by repeat (first | exact List.Mem.head _ | apply List.Mem.tail)) (News.one (q := (_ + 1 + 1 + 1, od)) N9 (by repeat (first | exact List.Mem.head _ | apply List.Mem.tail)) (News.one (q := (_ + 1 + 1, oj)) N9 (by repeat (first | exact List.Mem.head _ | apply List.Mem.tail)) (News.one (q := (_ + 1, ol)) N9 (by repeat (first | exact List.Mem.head _ | apply List.Mem.tail)) News.nil))))))))))))
  clear N9
  refine Rest.mk ?_
  refine join_if3 F9 (fun nx => ∃ (D : Addr) (ys : List Value) (c : Nat) (od' : Obj), nx = [(D, listOf ys.toArray c), (xj, instObj 78 dj), (dj, dictOf (vecD wA.params j1 j2 j3 j4 j5 tj lj) 5), (lj, listOf (vf ++ vs).toArray 0), (ls, listOf vs.toArray cs), (lf, listOf vf.toArray cf), (lo, listOf vo.toArray co), (sA.heap.objs.size + 1 + 1 + 1, od'), (sA.heap.objs.size + 1 + 1, oj), (sA.heap.objs.size + 1, ol)] ∧
    od'.data = .cell (some (.ref D)) ∧ IntsAre ys (dueL ofs oss) ∧ sA.heap.objs.size + 1 + 1 + 1 < D) ?_ ?_
  · refine hidQ fun QQ hQQ => ?_
    by_cases e1 : ofs = []
    · skip
      k_steps
      refine hidOf hQQ ?_
      k_steps
      rename News _ _ _ _ => N7
      refine Rest.mk ⟨_, _, _, rfl, by assumption, (News.one (q := (ld, _)) N7 (by repeat (first | exact List.Mem.head _ | apply List.Mem.tail)) (News.one (q := (xj, _)) N7 (by repeat (first | exact List.Mem.head _ | apply List.Mem.tail)) (News.one (q := (dj, _)) N7 (by repeat (first | exact List.Mem.head _ | apply List.Mem.tail)) (News.one (q := (lj, _)) N7 (by repeat (first | exact List.Mem.head _ | apply List.Mem.tail)) (News.one (q := (ls, _)) N7 (by repeat (first | exact List.Mem.head _ | apply List.Mem.tail)) (News.one (q := (lf, _)) N7 (by repeat (first | exact List.Mem.head _ | apply List.Mem.tail)) (News.one (q := (lo, _)) N7 (by repeat (first | exact List.Mem.head _ | apply List.Mem.tail)) (News.one (q := (sA.heap.objs.size + 1 + 1 + 1, _)) N7 (by repeat (first | exact List.Mem.head _ | apply List.Mem.tail)) (News.one (q := (sA.heap.objs.size + 1 + 1, _)) N7 (by repeat (first | exact List.Mem.head _ | apply List.Mem.tail)) (News.one (q := (sA.heap.objs.size + 1, _)) N7 (by repeat (first | exact List.Mem.head _ | apply List.Mem.tail)) News.nil)))))))))), ld, _, _, _, rfl, dcd, ?_, by omega⟩
      have e9 : dueL ofs oss = rl ofs ++ rl oss := by unfold dueL; rw [if_neg (by simp [seamB, e1])]
      rw [e9]; exact hid
    by_cases e2 : oss = []
    · have hp1 : 0 < vf.length := by rw [hlvf]; exact List.length_pos_iff.mpr e1
      k_steps
      refine hidOf hQQ ?_
      k_steps
      rename News _ _ _ _ => N7
      refine Rest.mk ⟨_, _, _, rfl, by assumption, (News.one (q := (ld, _)) N7 (by repeat (first | exact List.Mem.head _ | apply List.Mem.tail)) (News.one (q := (xj, _)) N7 (by repeat (first | exact List.Mem.head _ | apply List.Mem.tail)) (News.one (q := (dj, _)) N7 (by repeat (first | exact List.Mem.head _ | apply List.Mem.tail)) (News.one (q := (lj, _)) N7 (by repeat (first | exact List.Mem.head _ | apply List.Mem.tail)) (News.one (q := (ls, _)) N7 (by repeat (first | exact List.Mem.head _ | apply List.Mem.tail)) (News.one (q := (lf, _)) N7 (by repeat (first | exact List.Mem.head _ | apply List.Mem.tail)) (News.one (q := (lo, _)) N7 (by repeat (first | exact List.Mem.head _ | apply List.Mem.tail)) (News.one (q := (sA.heap.objs.size + 1 + 1 + 1, _)) N7 (by repeat (first | exact List.Mem.head _ | apply List.Mem.tail)) (News.one (q := (sA.heap.objs.size + 1 + 1, _)) N7 (by repeat (first | exact List.Mem.head _ | apply List.Mem.tail)) (News.one (q := (sA.heap.objs.size + 1, _)) N7 (by repeat (first | exact List.Mem.head _ | apply List.Mem.tail)) News.nil)))))))))), ld, _, _, _, rfl, dcd, ?_, by omega⟩
      have e9 : dueL ofs oss = rl ofs ++ rl oss := by unfold dueL; rw [if_neg (by simp [seamB, e2])]
      rw [e9]; exact hid
    have hp1 : 0 < vf.length := by rw [hlvf]; exact List.length_pos_iff.mpr e1
    have hp2 : 0 < vs.length := by rw [hlvs]; exact List.length_pos_iff.mpr e2
    have hg1 : vf[vf.length - 1]? = some (vf[vf.length - 1]) := List.getElem?_eq_getElem _
    have hg2 : vs[0]? = some (vs[0]) := List.getElem?_eq_getElem _
    rcases hif.at hg1 with ⟨k1, u1, eo1, ev1⟩ | ⟨eo1, ev1⟩
    · rw [ev1] at hg1
      rcases his.at hg2 with ⟨k2, u2, eo2, ev2⟩ | ⟨eo2, ev2⟩
      · rw [ev2] at hg2
        by_cases ek : k1 = k2
        · skip
          subst ek
          have hq1 : 0 < y1.length := by
            obtain ⟨n9, e9⟩ : ∃ n, ofs.length = n + 1 := ⟨ofs.length - 1, by omega⟩
            rw [hy1.length, e9]; exact List.length_pos_iff.mpr (runs_ne _ _)
          have hq2 : 0 < y2.length := by
            obtain ⟨n9, e9⟩ : ∃ n, oss.length = n + 1 := ⟨oss.length - 1, by omega⟩
            rw [hy2.length, e9]; exact List.length_pos_iff.mpr (runs_ne _ _)
          obtain ⟨a1, ta1, ev3, ea1⟩ := IntsAre.at hy1 (y1.length - 1) _ (List.getElem?_eq_getElem (by omega))
          obtain ⟨a2, ta2, ev4, ea2⟩ := IntsAre.at hy2 0 _ (List.getElem?_eq_getElem (by omega))
          have hg3 : y1[y1.length - 1]? = some (.int a1 ta1) := by rw [List.getElem?_eq_getElem (by omega), ev3]
          have hg4 : y2[0]? = some (.int a2 ta2) := by rw [List.getElem?_eq_getElem (by omega), ev4]
          clear ev1 ev2 ev3 ev4
          have hyl1 := hy1.length
          have hyl2 := hy2.length
          k_steps
          refine hidOf hQQ ?_
          k_steps
          rename_i D7 w7 _ hI7 lD7 _ o7 F7 N7 dc7
          refine Rest.mk ⟨_, _, _, rfl, by assumption, (News.one (q := (D7, _)) N7 (by repeat (first | exact List.Mem.head _ | apply List.Mem.tail)) (News.one (q := (xj, _)) N7 (by repeat (first | exact List.Mem.head _ | apply List.Mem.tail)) (News.one (q := (dj, _)) N7 (by repeat (first | exact List.Mem.head _ | apply List.Mem.tail)) (News.one (q := (lj, _)) N7 (by repeat (first | exact List.Mem.head _ | apply List.Mem.tail)) (News.one (q := (ls, _)) N7 (by repeat (first | exact List.Mem.head _ | apply List.Mem.tail)) (News.one (q := (lf, _)) N7 (by repeat (first | exact List.Mem.head _ | apply List.Mem.tail)) (News.one (q := (lo, _)) N7 (by repeat (first | exact List.Mem.head _ | apply List.Mem.tail)) (News.one (q := (sA.heap.objs.size + 1 + 1 + 1, _)) N7 (by repeat (first | exact List.Mem.head _ | apply List.Mem.tail)) (News.one (q := (sA.heap.objs.size + 1 + 1, _)) N7 (by repeat (first | exact List.Mem.head _ | apply List.Mem.tail)) (News.one (q := (sA.heap.objs.size + 1, _)) N7 (by repeat (first | exact List.Mem.head _ | apply List.Mem.tail)) News.nil)))))))))), D7, _, _, _, rfl, dc7, ?_, by omega⟩
          have e9 : dueL ofs oss = glue (rl ofs) (rl oss) := by
            unfold dueL
            rw [if_pos (by rw [seam_at (by omega) eo1 (by omega) eo2]; simp [sameB])]
          rw [e9, glue_form]
          exact hI7
        · skip
          k_steps
          refine hidOf hQQ ?_
          k_steps
          rename News _ _ _ _ => N7
          refine Rest.mk ⟨_, _, _, rfl, by assumption, (News.one (q := (ld, _)) N7 (by repeat (first | exact List.Mem.head _ | apply List.Mem.tail)) (News.one (q := (xj, _)) N7 (by repeat (first | exact List.Mem.head _ | apply List.Mem.tail)) (News.one (q := (dj, _)) N7 (by repeat (first | exact List.Mem.head _ | apply List.Mem.tail)) (News.one (q := (lj, _)) N7 (by repeat (first | exact List.Mem.head _ | apply List.Mem.tail)) (News.one (q := (ls, _)) N7 (by repeat (first | exact List.Mem.head _ | apply List.Mem.tail)) (News.one (q := (lf, _)) N7 (by repeat (first | exact List.Mem.head _ | apply List.Mem.tail)) (News.one (q := (lo, _)) N7 (by repeat (first | exact List.Mem.head _ | apply List.Mem.tail)) (News.one (q := (sA.heap.objs.size + 1 + 1 + 1, _)) N7 (by repeat (first | exact List.Mem.head _ | apply List.Mem.tail)) (News.one (q := (sA.heap.objs.size + 1 + 1, _)) N7 (by repeat (first | exact List.Mem.head _ | apply List.Mem.tail)) (News.one (q := (sA.heap.objs.size + 1, _)) N7 (by repeat (first | exact List.Mem.head _ | apply List.Mem.tail)) News.nil)))))))))), ld, _, _, _, rfl, dcd, ?_, by omega⟩
          have e9 : dueL ofs oss = rl ofs ++ rl oss := by unfold dueL; rw [if_neg (by rw [seam_at (by omega) eo1 (by omega) eo2]; simp [sameB, ek])]
          rw [e9]; exact hid
      · rw [ev2] at hg2
        k_steps
        refine hidOf hQQ ?_
        k_steps
        rename News _ _ _ _ => N7
        refine Rest.mk ⟨_, _, _, rfl, by assumption, (News.one (q := (ld, _)) N7 (by repeat (first | exact List.Mem.head _ | apply List.Mem.tail)) (News.one (q := (xj, _)) N7 (by repeat (first | exact List.Mem.head _ | apply List.Mem.tail)) (News.one (q := (dj, _)) N7 (by repeat (first | exact List.Mem.head _ | apply List.Mem.tail)) (News.one (q := (lj, _)) N7 (by repeat (first | exact List.Mem.head _ | apply List.Mem.tail)) (News.one (q := (ls, _)) N7 (by repeat (first | exact List.Mem.head _ | apply List.Mem.tail)) (News.one (q := (lf, _)) N7 (by repeat (first | exact List.Mem.head _ | apply List.Mem.tail)) (News.one (q := (lo, _)) N7 (by repeat (first | exact List.Mem.head _ | apply List.Mem.tail)) (News.one (q := (sA.heap.objs.size + 1 + 1 + 1, _)) N7 (by repeat (first | exact List.Mem.head _ | apply List.Mem.tail)) (News.one (q := (sA.heap.objs.size + 1 + 1, _)) N7 (by repeat (first | exact List.Mem.head _ | apply List.Mem.tail)) (News.one (q := (sA.heap.objs.size + 1, _)) N7 (by repeat (first | exact List.Mem.head _ | apply List.Mem.tail)) News.nil)))))))))), ld, _, _, _, rfl, dcd, ?_, by omega⟩
        have e9 : dueL ofs oss = rl ofs ++ rl oss := by unfold dueL; rw [if_neg (by rw [seam_at (by omega) eo1 (by omega) eo2]; simp [sameB])]
        rw [e9]; exact hid
    · rw [ev1] at hg1
      k_steps
      refine hidOf hQQ ?_
      k_steps
      rename News _ _ _ _ => N7
      refine Rest.mk ⟨_, _, _, rfl, by assumption, (News.one (q := (ld, _)) N7 (by repeat (first | exact List.Mem.head _ | apply List.Mem.tail)) (News.one (q := (xj, _)) N7 (by repeat (first | exact List.Mem.head _ | apply List.Mem.tail)) (News.one (q := (dj, _)) N7 (by repeat (first | exact List.Mem.head _ | apply List.Mem.tail)) (News.one (q := (lj, _)) N7 (by repeat (first | exact List.Mem.head _ | apply List.Mem.tail)) (News.one (q := (ls, _)) N7 (by repeat (first | exact List.Mem.head _ | apply List.Mem.tail)) (News.one (q := (lf, _)) N7 (by repeat (first | exact List.Mem.head _ | apply List.Mem.tail)) (News.one (q := (lo, _)) N7 (by repeat (first | exact List.Mem.head _ | apply List.Mem.tail)) (News.one (q := (sA.heap.objs.size + 1 + 1 + 1, _)) N7 (by repeat (first | exact List.Mem.head _ | apply List.Mem.tail)) (News.one (q := (sA.heap.objs.size + 1 + 1, _)) N7 (by repeat (first | exact List.Mem.head _ | apply List.Mem.tail)) (News.one (q := (sA.heap.objs.size + 1, _)) N7 (by repeat (first | exact List.Mem.head _ | apply List.Mem.tail)) News.nil)))))))))), ld, _, _, _, rfl, dcd, ?_, by omega⟩
      have e9 : dueL ofs oss = rl ofs ++ rl oss := by unfold dueL; rw [if_neg (by rw [seam_none (by omega) eo1]; simp)]
      rw [e9]; exact hid
  · rintro h8 tk8 nx8 F8 N8 ⟨D, yd, cd, od', rfl, hod, hyd, hD⟩
    clear ltd hid dcd
    have hJ := hij.length
    have hL1 : (runs (ofs ++ oss) (ofs ++ oss).length).1 = dueL ofs oss := runs_join ofs oss
    have hL2 : (runs (ofs ++ oss) (ofs ++ oss).length).1.sum = (vf.length : Int) + (vs.length : Int) := by rw [runs_sum, List.length_append]; omega
    have hl18 : (ofs ++ oss).length ≤ 18 := by rw [List.length_append]; omega
    k_steps
    rename_i tpt lat lbt nt yt zt ct1 ct2 _ _ hyt hzt ryt rzt ltt lt8t lt7t _ _ _ _ _ _ _ _ _ lF lN
    have hzl := hzt.length
    have hytl := hyt.length
    refine Rest.mk ?_
    refine LCg.CompSrc.ledger rfl lF lN (.tail _ (.head _)) (by rw [PySem.sizeLine_eq, List.size_toArray]; omega) ?_
    intro g
    refine comp_rest (fun i y => ∃ k, (runs (ofs ++ oss) (ofs ++ oss).length).2[i]? = some k ∧ (vf ++ vs)[k.toNat]? = some y) ?_ ?_
    · intro i v I oI C oC Dc m₂ ys h tk E' hi' hv hC hx F1 N1 off ne
      obtain ⟨k, t, rfl, hk⟩ := IntsAre.at hzt i v (by simpa using hv)
      have hkb := runs_places (List.mem_of_getElem? hk)
      clear ne
      have hkb2 : k < ((vf ++ vs).length : Int) := by omega
      refine hidQ fun QE hQE => ?_
      k_steps
      refine hidOf hQE ?_
      k_steps
      exact LCg.CompEnd.intro (by assumption) (by assumption) _ (fun p hp => hp) off (Or.inr ⟨_, by k_mem, rfl, _, rfl⟩) ⟨rfl, k, hk, by assumption⟩
    · intro ys hl hy Dh h tk F1 N1 o1
      rw [List.size_toArray, hzl, rzt] at hl
      have hrb : ∀ k ∈ (runs (ofs ++ oss) (ofs ++ oss).length).1, 0 ≤ k ∧ k < 32 := fun k hk => by have := runs_bound hk; omega
      k_steps
      rename_i yi ei li ysi ci _ _ _ _ _ _ _ hli hyi lti lt8i lt7i lt6i Fi Ni
      have hYI : ItemsAre ysi (ofs ++ oss) := rle_back hij hl hy hli hyi
      refine Rest.mk ?_
      (try k_fold)
      k_steps
      rename News _ _ _ _ => Np
      have Nq := (News.one (q := (lo, _)) Np (by repeat (first | exact List.Mem.head _ | apply List.Mem.tail)) (News.one (q := (sA.heap.objs.size + 1 + 1 + 1, _)) Np (by repeat (first | exact List.Mem.head _ | apply List.Mem.tail)) (News.one (q := (sA.heap.objs.size + 1 + 1, _)) Np (by repeat (first | exact List.Mem.head _ | apply List.Mem.tail)) (News.one (q := (sA.heap.objs.size + 1, _)) Np (by repeat (first | exact List.Mem.head _ | apply List.Mem.tail)) News.nil))))
      clear Np
      obtain ⟨ns, hns, ens⟩ := ItemsAre.ints hio (fun h => by have := hko _ h; cases this)
      have hvol := hns.length
      have hool := hio.length
      have hsm : ∀ x ∈ ns, 0 ≤ x ∧ x < 5 := fun x hx => hko (some x) (by rw [ens]; exact List.mem_map_of_mem hx)
      have hs50 : Small 50 ns := fun x hx => by have := hsm x hx; omega
      have hkl3 := wkl.2
      have hkt3 := wkt.2
      refine Rest.mk ?_
      (try k_fold)
      by_cases hb1 : (kl : Int) < 1
      · skip
        k_dflt (refine' told_bad ?uB ?uF ?uX ?uN ?uT ?uK ?ud ?uu rfl ?uXB ?uTB ?ul (.inl hb1) ?_; (case uB => k_asm); (case uF => k_asm); (case uX => k_asm); (case uN => k_asm); (case uT => k_asm); (case uK => first | exact rfl | assumption); (case ud => ktr_room); (case uu => ktr_units); (case uXB => k_asm); (case uTB => k_asm); (case ul => exact .head _); k_whole)
        intro t9 h9 tk9 F9 N9
        (try dsimp only)
        (try k_fold)
        k_steps
      by_cases hb2 : (kt : Int) < 1
      · skip
        k_dflt (refine' told_bad ?uB ?uF ?uX ?uN ?uT ?uK ?ud ?uu rfl ?uXB ?uTB ?ul (.inr hb2) ?_; (case uB => k_asm); (case uF => k_asm); (case uX => k_asm); (case uN => k_asm); (case uT => k_asm); (case uK => first | exact rfl | assumption); (case ud => ktr_room); (case uu => ktr_units); (case uXB => k_asm); (case uTB => k_asm); (case ul => exact .head _); k_whole)
        intro t9 h9 tk9 F9 N9
        (try dsimp only)
        (try k_fold)
        k_steps
      k_steps
      rename_i lq yq cq _ _ hq ltq _ _ _ Dd cd2 _ ltd2 _ od2 Fo No dcd2 _ _ _ _ _ rg lF lN gg
      refine range_loop [] (fun i _ nx => ∃ (D : Addr) (ys : List Value) (c : Nat) (od : Obj), nx = [(D, listOf ys.toArray c), (lq, listOf yq.toArray cq), (lo, listOf vo.toArray co), (sA.heap.objs.size + 1 + 1 + 1, od), (sA.heap.objs.size + 1 + 1, oj), (sA.heap.objs.size + 1, ol)] ∧ od.data = .cell (some (.ref D)) ∧ IntsAre ys (difs kl i ns) ∧ (lq ≠ D ∧ lo ≠ D ∧ sA.heap.objs.size + 1 + 1 + 1 ≠ D ∧ sA.heap.objs.size + 1 + 1 ≠ D ∧ sA.heap.objs.size + 1 ≠ D))
        rfl rg (small_one (by omega) (by omega) (by omega) (by omega)) (rangeSize_nat _ _) lF lN ⟨Dd, vo, cd2, od2, rfl, dcd2, hns, Nat.ne_of_lt ltd2.1, Nat.ne_of_lt ltd2.2.1, Nat.ne_of_lt ltd2.2.2.1, Nat.ne_of_lt ltd2.2.2.2.1, Nat.ne_of_lt ltd2.2.2.2.2⟩ ?_ ?_
      · clear lF lN Fo No
        rintro i t u nx h tk own hlt ho ⟨D3, y3, c3, od3, rfl, hod3, hy3, hD3⟩ F1 N1
        simp only [List.cons_append, List.nil_append] at N1
        have hl3 := hy3.length
        have hdl9 : (difs kl i ns).length ≤ 9 := by have := difs_length kl ns i; omega
        refine hidQ fun QM hQM => ?_
        obtain ⟨hDa, hDb, hDc, hDd, hDe⟩ := hD3
        k_steps
        rename Fr _ _ _ _ => lF
        rename News _ _ _ _ => lN
        rename IsRange _ _ _ _ _ _ _ _ => rg2
        rename IntsAre y3 _ => hy3
        refine Rest.mk ?_
        refine LCg.CompSrc.range rfl lF lN rg2 (small_one (by omega) (by omega) (by omega) (by omega)) (rangeSize_nat _ _) (by rw [PySem.sizeLine_eq]; omega) ?_
        intro g
        refine comp_rest (fun j y => ∃ a b t, y = .int (a - b) t ∧ (difs kl i ns)[kl + j]? = some a ∧ (difs kl i ns)[j]? = some b) ?_ ?_
        · intro j v I oI C oC Dc m₂ ys h tk E' hj hv hC hx F1 N1 off ne
          obtain ⟨tv, rfl⟩ := hv
          have hj2 : j + kl < (difs kl i ns).length := by clear ne hDa hDb hDc hDd hDe; omega
          clear hj ne
          refine hidQ fun QE hQE => ?_
          k_steps
          refine hidOf hQE ?_
          k_steps
          have b1 : kl + j < (difs kl i ns).length := by rw [Nat.add_comm]; exact hj2
          have b2 : j < (difs kl i ns).length := Nat.lt_of_le_of_lt (Nat.le_add_right _ _) hj2
          have ej1 := toNat_two kl j
          have ej2 := toNat_back kl j
          exact LCg.CompEnd.intro (by assumption) (by assumption) _ (fun p hp => hp) off trivial ⟨rfl, _, _, _, rfl, by rw [ej1, List.getD, List.getElem?_eq_getElem b1]; rfl, by rw [ej2, List.getD, List.getElem?_eq_getElem b2]; rfl⟩
        · intro ys hl hy Dh h tk F1 N1 o1
          have hd := dif_of (lag := kl) (toNat_less _ _) hl hy
          simp only [LCg.Off1] at o1
          k_steps
          refine hidOf hQM ?_
          k_steps
          rename_i h7 o7 F7 N7 d7
          have hof : ∀ p ∈ own, p.1 ≠ Dh := off1_mem o1.2.2.2.2.2.2
          exact InvEndG.intro F7 N7 ⟨stay0, Dh, ys, _, o7, rfl, d7, hd, o1.2.1, o1.2.2.1, o1.2.2.2.1, o1.2.2.2.2.1, o1.2.2.2.2.2.1⟩ (turn_off ho hof) (fun p hp => turn_in hp) (fun p hp => .tail _ (.tail _ (.tail _ (.tail _ (.tail _ (.tail _ (.tail _ hp)))))))
      · rintro u nx h tk ⟨D3, y3, c3, od3, rfl, hod3, hy3, hD3⟩ F1 N1
        have ekt : ((kt : Int) - 0).toNat = kt := by omega
        rw [ekt] at hy3
        have ekl : (kl : Int).toNat = kl := by omega
        have ekt2 : (kt : Int).toNat = kt := by omega
        rw [ekl, ekt2] at hq
        clear ekl ekt ekt2
        have hl3 := hy3.length
        have hdl := difs_length kl ns kt
        have hnv : (vo.length : Int) = (ns.length : Int) := by omega
        have hb1' : 1 ≤ kl := by omega
        have hb2' : 1 ≤ kt := by omega
        have hkl4 : kl ≤ 3 := by omega
        have hkt4 : kt ≤ 3 := by omega
        have hs50d : Small 50 (dif kl ns) := small_dif hsm
        have hdl1 : (dif kl ns).length ≤ 9 := by rw [dif_length]; omega
        have hrl : ns.reverse.length = ns.length := List.length_reverse ..
        have hs50r : Small 50 ns.reverse := fun x hx => hs50 x (List.mem_reverse.mp hx)
        have hStopI : StopIf := trivial
        clear ens rg lF lN Fo No gg ltd2 dcd2
        k_steps
        rename Fr _ _ _ _ => lF
        (rename StopIf => hStop; clear hStop)
        refine Rest.mk ?_
        refine join_if3 lF (fun nx => nx = [(lq, listOf yq.toArray cq), (lo, listOf vo.toArray co), (sA.heap.objs.size + 1 + 1 + 1, od3), (sA.heap.objs.size + 1 + 1, oj), (sA.heap.objs.size + 1, ol)]) ?_ ?_
        · refine hidQ fun QQ hQQ => ?_
          by_cases hc : (kl : Int) * (kt : Int) < (vo.length : Int)
          · have hcn : ¬ ns.length ≤ kl * kt := fun h => by
              have : (ns.length : Int) ≤ (kl : Int) * (kt : Int) := by exact_mod_cast h
              omega
            rw [if_neg hcn] at hq
            k_steps
            refine hidOf hQQ ?_
            k_steps
            rename News _ _ _ _ => N7
            refine Rest.mk ⟨_, _, _, rfl, by assumption, (News.one (q := (lq, _)) N7 (by repeat (first | exact List.Mem.head _ | apply List.Mem.tail)) (News.one (q := (lo, _)) N7 (by repeat (first | exact List.Mem.head _ | apply List.Mem.tail)) (News.one (q := (sA.heap.objs.size + 1 + 1 + 1, _)) N7 (by repeat (first | exact List.Mem.head _ | apply List.Mem.tail)) (News.one (q := (sA.heap.objs.size + 1 + 1, _)) N7 (by repeat (first | exact List.Mem.head _ | apply List.Mem.tail)) (News.one (q := (sA.heap.objs.size + 1, _)) N7 (by repeat (first | exact List.Mem.head _ | apply List.Mem.tail)) News.nil))))), rfl⟩
          · have hcn : ns.length ≤ kl * kt := by
              have : (ns.length : Int) ≤ (kl : Int) * (kt : Int) := by omega
              exact_mod_cast this
            rw [if_pos hcn] at hq
            k_steps
            refine hidOf hQQ ?_
            k_steps
            rename News _ _ _ _ => N7
            refine Rest.mk ⟨_, _, _, rfl, by assumption, (News.one (q := (lq, _)) N7 (by repeat (first | exact List.Mem.head _ | apply List.Mem.tail)) (News.one (q := (lo, _)) N7 (by repeat (first | exact List.Mem.head _ | apply List.Mem.tail)) (News.one (q := (sA.heap.objs.size + 1 + 1 + 1, _)) N7 (by repeat (first | exact List.Mem.head _ | apply List.Mem.tail)) (News.one (q := (sA.heap.objs.size + 1 + 1, _)) N7 (by repeat (first | exact List.Mem.head _ | apply List.Mem.tail)) (News.one (q := (sA.heap.objs.size + 1, _)) N7 (by repeat (first | exact List.Mem.head _ | apply List.Mem.tail)) News.nil))))), rfl⟩
        · rintro h1 tk1 nx1 F1 N1 rfl
          clear hD3 hy3 hl3
          have hStopI : StopIf := trivial
          k_steps
          rename Fr _ _ _ _ => lF
          (rename StopIf => hStop; clear hStop)
          refine Rest.mk ?_
          refine join_if3 lF (fun nx => nx = [(lq, listOf yq.toArray cq), (lo, listOf vo.toArray co), (sA.heap.objs.size + 1 + 1 + 1, od3), (sA.heap.objs.size + 1 + 1, oj), (sA.heap.objs.size + 1, ol)]) ?_ ?_
          · refine hidQ fun QQ hQQ => ?_
            by_cases ht : (kt : Int) > 1
            · by_cases hc : (kl : Int) * (kt : Int) < (vo.length : Int)
              · have hcn : ¬ ns.length ≤ kl * kt := fun h => by
                  have : (ns.length : Int) ≤ (kl : Int) * (kt : Int) := by exact_mod_cast h
                  omega
                rw [if_neg hcn] at hq
                k_steps
                refine hidOf hQQ ?_
                k_steps
                rename News _ _ _ _ => N7
                refine Rest.mk ⟨_, _, _, rfl, by assumption, (News.one (q := (lq, _)) N7 (by repeat (first | exact List.Mem.head _ | apply List.Mem.tail)) (News.one (q := (lo, _)) N7 (by repeat (first | exact List.Mem.head _ | apply List.Mem.tail)) (News.one (q := (sA.heap.objs.size + 1 + 1 + 1, _)) N7 (by repeat (first | exact List.Mem.head _ | apply List.Mem.tail)) (News.one (q := (sA.heap.objs.size + 1 + 1, _)) N7 (by repeat (first | exact List.Mem.head _ | apply List.Mem.tail)) (News.one (q := (sA.heap.objs.size + 1, _)) N7 (by repeat (first | exact List.Mem.head _ | apply List.Mem.tail)) News.nil))))), rfl⟩
              · skip
                k_steps
                refine hidOf hQQ ?_
                k_steps
                rename News _ _ _ _ => N7
                refine Rest.mk ⟨_, _, _, rfl, by assumption, (News.one (q := (lq, _)) N7 (by repeat (first | exact List.Mem.head _ | apply List.Mem.tail)) (News.one (q := (lo, _)) N7 (by repeat (first | exact List.Mem.head _ | apply List.Mem.tail)) (News.one (q := (sA.heap.objs.size + 1 + 1 + 1, _)) N7 (by repeat (first | exact List.Mem.head _ | apply List.Mem.tail)) (News.one (q := (sA.heap.objs.size + 1 + 1, _)) N7 (by repeat (first | exact List.Mem.head _ | apply List.Mem.tail)) (News.one (q := (sA.heap.objs.size + 1, _)) N7 (by repeat (first | exact List.Mem.head _ | apply List.Mem.tail)) News.nil))))), rfl⟩
            · skip
              k_steps
              refine hidOf hQQ ?_
              k_steps
              rename News _ _ _ _ => N7
              refine Rest.mk ⟨_, _, _, rfl, by assumption, (News.one (q := (lq, _)) N7 (by repeat (first | exact List.Mem.head _ | apply List.Mem.tail)) (News.one (q := (lo, _)) N7 (by repeat (first | exact List.Mem.head _ | apply List.Mem.tail)) (News.one (q := (sA.heap.objs.size + 1 + 1 + 1, _)) N7 (by repeat (first | exact List.Mem.head _ | apply List.Mem.tail)) (News.one (q := (sA.heap.objs.size + 1 + 1, _)) N7 (by repeat (first | exact List.Mem.head _ | apply List.Mem.tail)) (News.one (q := (sA.heap.objs.size + 1, _)) N7 (by repeat (first | exact List.Mem.head _ | apply List.Mem.tail)) News.nil))))), rfl⟩
          · rintro h2 tk2 nx2 F2 N2 rfl
            have hStopI : StopIf := trivial
            k_steps
            rename Fr _ _ _ _ => lF
            (rename StopIf => hStop; clear hStop)
            refine Rest.mk ?_
            refine join_if3 lF (fun nx => nx = [(lq, listOf yq.toArray cq), (lo, listOf vo.toArray co), (sA.heap.objs.size + 1 + 1 + 1, od3), (sA.heap.objs.size + 1 + 1, oj), (sA.heap.objs.size + 1, ol)]) ?_ ?_
            · refine hidQ fun QQ hQQ => ?_
              by_cases ht : (vo.length : Int) > 1
              · have hsum : (dif 1 ns).sum = ns.getD (-1 + (ns.length : Int)).toNat 0 - ns.getD (Int.toNat 0) 0 := by
                  rw [toNat_last _ (by omega)]; exact dif_sum ns (by omega)
                k_steps
                refine hidOf hQQ ?_
                k_steps
                rename News _ _ _ _ => N7
                refine Rest.mk ⟨_, _, _, rfl, by assumption, (News.one (q := (lq, _)) N7 (by repeat (first | exact List.Mem.head _ | apply List.Mem.tail)) (News.one (q := (lo, _)) N7 (by repeat (first | exact List.Mem.head _ | apply List.Mem.tail)) (News.one (q := (sA.heap.objs.size + 1 + 1 + 1, _)) N7 (by repeat (first | exact List.Mem.head _ | apply List.Mem.tail)) (News.one (q := (sA.heap.objs.size + 1 + 1, _)) N7 (by repeat (first | exact List.Mem.head _ | apply List.Mem.tail)) (News.one (q := (sA.heap.objs.size + 1, _)) N7 (by repeat (first | exact List.Mem.head _ | apply List.Mem.tail)) News.nil))))), rfl⟩
              · skip
                k_steps
                refine hidOf hQQ ?_
                k_steps
                rename News _ _ _ _ => N7
                refine Rest.mk ⟨_, _, _, rfl, by assumption, (News.one (q := (lq, _)) N7 (by repeat (first | exact List.Mem.head _ | apply List.Mem.tail)) (News.one (q := (lo, _)) N7 (by repeat (first | exact List.Mem.head _ | apply List.Mem.tail)) (News.one (q := (sA.heap.objs.size + 1 + 1 + 1, _)) N7 (by repeat (first | exact List.Mem.head _ | apply List.Mem.tail)) (News.one (q := (sA.heap.objs.size + 1 + 1, _)) N7 (by repeat (first | exact List.Mem.head _ | apply List.Mem.tail)) (News.one (q := (sA.heap.objs.size + 1, _)) N7 (by repeat (first | exact List.Mem.head _ | apply List.Mem.tail)) News.nil))))), rfl⟩
            · rintro h3 tk3 nx3 F3 N3 rfl
              have hrev := dif_rev kl ns
              k_steps
              rename Fr _ _ _ _ => lF
              rename News _ _ _ _ => lN
              rename IntsAre _ (dif kl ns) => hz9
              have hzl9 := hz9.length
              refine Rest.mk ?_
              refine LCg.CompSrc.ledger rfl lF lN (.head _) (by rw [PySem.sizeLine_eq, List.size_toArray]; omega) ?_
              intro g
              refine comp_rest (fun i y => ∃ a t, y = .int (0 - a) t ∧ (dif kl ns)[i]? = some a) ?_ ?_
              · intro i v I oI C oC Dc m₂ ys h tk E' hi' hv hC hx F1 N1 off ne
                obtain ⟨k, t, rfl, hk⟩ := IntsAre.at hz9 i v (by simpa using hv)
                clear ne
                refine hidQ fun QE hQE => ?_
                k_steps
                refine hidOf hQE ?_
                k_steps
                exact LCg.CompEnd.intro (by assumption) (by assumption) _ (fun p hp => hp) off (Or.inr ⟨_, by k_mem, rfl, _, rfl⟩) ⟨rfl, _, _, rfl, hk⟩
              · intro ys hl hy Dh h tk F1 N1 o1
                rw [List.size_toArray, hzl9] at hl
                have hneg := neg_of hl hy
                have hys9 : ys.length ≤ 9 := by rw [hl]; exact hdl1
                simp only [LCg.Off1] at o1
                have hStopE : StopEq := trivial
                k_steps
                refine Rest.mk ?_
                (try k_fold)
                refine kba_turn (value' := PySem.Expr.Name (PySem.Str.ofString "x") ⟨0, 0, 0, 0⟩) (fun _ => rfl) ?_
                k_dflt (refine' krv_ints ?zqF ?zqN ?zql ?zqk ?zqi ?_ ?zqs ?zqt ?zqz; (case zqF => k_asm); (case zqN => k_asm); (case zql => exact News.isList (by k_asm) (.head _)); (case zqk => exact IsPart.int _ _); (case zqi => exact hneg); (case zqs => with_unfolding_all rfl); (case zqt => kmk_pure); (case zqz => (rw [sizeLine_eq, List.size_toArray]; exact Nat.le_trans hys9 (by decide))))
                intro D9 us9 h9 F9 N9 lt9 hi9 hl9
                (try k_lt lt9)
                (try dsimp only)
                (try k_fold)
                k_steps
                refine Rest.mk ?_
                (try k_fold)
                k_dflt (refine' eq_intsT ?zrN ?zra ?zrb ?zri ?zrj ?zru ?zre ?_; (case zrN => k_asm); (case zra => k_mem); (case zrb => k_mem); (case zri => assumption); (case zrj => assumption); (case zre => exact hrev); (case zru => units_room); k_whole)
                (try dsimp only)
                (try k_fold)
                k_steps
end
end Mine
end
theorem PySem.Challenge.cw_ov0077_01_holds : PySem.Challenge.rw_ov0077_01.Holds :=
  Mine.hd
