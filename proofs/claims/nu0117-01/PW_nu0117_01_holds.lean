import PyProof.Rows.All
import Wide.All
import OpenK.AllK
import Wide.FinOn
import PySem.Challenge.RW_nu0117_01
open PySem PySem.W PyProof.Rows PySem.Spec PySem.Calls
set_option Elab.async false

namespace Mine
section
set_option maxRecDepth 100000
set_option maxHeartbeats 8000000
open_top hd for PySem.Challenge.rw_nu0117_01
theorem filled : PySem.Challenge.rw_nu0117_01 = PySem.Challenge.rw_nu0117_01 ∧ hd.heap_39 = hd.heap_39 := by
  k_fill
  exact ⟨rfl, rfl⟩
end

/-! part 1 -/
section
set_option maxRecDepth 100000
set_option maxHeartbeats 8000000
abbrev Led := List (Addr × Obj)

abbrev Claim (f : Addr) (vs : List Value) (news : Led) (d u : Nat) (w : World) (mean : ExcName → Option Value) (mg mb : Str → Option Value)
    (Back : Heap → Addr → (Str → Option Value) → Shared → (Value → Shared → Prop) → Prop) : Prop :=
  ∀ (dp un : Nat) (gd : Option (List Code)) (cn : Str) (cs : Scope) (a : Addr) (ccd : Value) (cl : List (Str × Addr)) (outer : List Env) (A₀ : Around) (base h₀ : Heap) (L : Addr) (m : Str → Option Value) (s : Shared) (Q E : Value → Shared → Prop),
    Below A₀ base outer h₀ → Fr h₀ L s.heap m → (hd.heap_39 w.params).In h₀ → News h₀ L s.heap news → Top hd.view_39 (looseW hd.view_39 []) mean mg mb h₀ → cs.kind = .function →
    dp + d < recursionLimit → un + u < cLine → Back h₀ L m s Q →
    wpAny (model PySem.Challenge.rw_nu0117_01.row.prog w) (ktrTop dp un gd cn cs L a ccd cl outer) (call (.ref f) vs) Q E s

local macro_rules | `(tactic| walk_at "subscriptTail Name Constant ref int") => `(tactic| (k_here; walk_at "subscriptTail"))
local macro_rules | `(tactic| walk_at "binaryOp Mult int int") => `(tactic| (k_here; (with_reducible refine mul_int ?_ ?hm); (case hm => first | mul_fits | exact IntMulOk.of_right (intBits_le_64 (by (simp (disch := omega) only [Int.fmod_eq_emod_of_nonneg, Int.fdiv_eq_ediv_of_nonneg]; omega)) (by (simp (disch := omega) only [Int.fmod_eq_emod_of_nonneg, Int.fdiv_eq_ediv_of_nonneg]; omega))))))

theorem take_c (w : World) (mean : ExcName → Option Value) (mg mb : Str → Option Value) (S : Addr) (top a b : Int) (tt ta tb : Tok) (n : Nat) (rest : Led)
    (hoff : OwnOff rest [S]) (ht : 1 ≤ top) (ht2 : top ≤ 1000) (ha : 0 ≤ a) (hb : 0 ≤ b) (hb2 : b < 2147483647) :
    Claim 84 [.ref S, .int top tt] ((S, listOf #[.int a ta, .int b tb] n) :: rest) 2 16 w mean mg mb (fun h₀ L m s Q =>
      ∀ (r a' b' : Int) (t ta' tb' : Tok) (h' : Heap) (tk' : Nat), 0 ≤ r → r < top → 0 ≤ a' → 0 ≤ b' → b' < 2147483647 →
        Fr h₀ L h' m → News h₀ L h' ((S, listOf #[.int a' ta', .int b' tb'] n) :: rest) → Q (.int r t) { s with heap := h', toks := tk' }) := by
  intro dp un gd cn cs aa ccd cl outer A₀ base h₀ L m s Q E B F X N T hk hd hu hret
  refine wpAny_call ?_
  k_dflt cell_enter
  k_steps
  all_goals (
    refine hret _ _ _ _ _ _ _ _ ?_ ?_ ?_ ?_ ?_ (by k_asm) (by k_asm)
    all_goals (try simp (disch := omega) only [Int.fmod_eq_emod_of_nonneg, Int.fdiv_eq_ediv_of_nonneg])
    all_goals first | omega | exact Int.emod_nonneg _ (by omega) | exact Int.emod_lt_of_pos _ (by omega) | exact Int.ediv_nonneg (by omega) (by omega))

theorem take_use {w : World} {mean : ExcName → Option Value} {mg mb : Str → Option Value} {S : Addr} {top a b : Int} {tt ta tb : Tok} {n : Nat} {news : Led} {g : Obj → Led}
    {dp un : Nat} {gd : Option (List Code)} {cn : Str} {cs : Scope} {aa : Addr} {ccd : Value} {cl : List (Str × Addr)} {outer : List Env} {A₀ : Around} {base h₀ : Heap} {L : Addr} {m : Str → Option Value} {s : Shared} {Q E : Value → Shared → Prop}
    (B : Below A₀ base outer h₀) (F : Fr h₀ L s.heap m) (X : (hd.heap_39 w.params).In h₀) (N : News h₀ L s.heap news) (T : Top hd.view_39 (looseW hd.view_39 []) mean mg mb h₀) (hk : cs.kind = .function)
    (U : UpdF S (listOf #[.int a ta, .int b tb] n) news g) (ht : 1 ≤ top) (ht2 : top ≤ 1000) (ha : 0 ≤ a) (hb : 0 ≤ b) (hb2 : b < 2147483647) (hd' : dp + 2 < recursionLimit) (hu : un + 16 < cLine)
    (h : ∀ (r a' b' : Int) (t ta' tb' : Tok) (h' : Heap) (tk' : Nat), 0 ≤ r → r < top → 0 ≤ a' → 0 ≤ b' → b' < 2147483647 →
        Fr h₀ L h' m → News h₀ L h' (g (listOf #[.int a' ta', .int b' tb'] n)) → Q (.int r t) { s with heap := h', toks := tk' }) :
    wpAny (model PySem.Challenge.rw_nu0117_01.row.prog w) (ktrTop dp un gd cn cs L aa ccd cl outer) (call (.ref 84) [.ref S, .int top tt]) Q E s := by
  obtain ⟨pre, post, e1, e2, o1, o2⟩ := U.split
  subst e1
  refine take_c w mean mg mb S top a b tt ta tb n (pre ++ post) (fun p hp q hq => ?_) ht ht2 ha hb hb2 _ _ _ _ _ _ _ _ _ _ _ _ _ _ _ _ _ B F X (fun p hp => N p ?_) T hk hd' hu ?_
  · rw [List.mem_singleton.mp hq]
    exact (List.mem_append.mp hp).elim (o1 p) (o2 p)
  · rcases List.mem_cons.mp hp with rfl | hp
    · exact List.mem_append.mpr (.inr (.head _))
    · exact (List.mem_append.mp hp).elim (fun x => List.mem_append.mpr (.inl x)) fun x => List.mem_append.mpr (.inr (.tail _ x))
  · intro r a' b' t ta' tb' h' tk' r1 r2 r3 r4 r5 F' N'
    refine h r a' b' t ta' tb' h' tk' r1 r2 r3 r4 r5 F' fun p hp => N' p ?_
    rw [e2] at hp
    rcases List.mem_append.mp hp with hp | hp
    · exact .tail _ (List.mem_append.mpr (.inl hp))
    · rcases List.mem_cons.mp hp with rfl | hp
      · exact .head _
      · exact .tail _ (List.mem_append.mpr (.inr hp))
end

/-! part 2 -/
section
set_option maxRecDepth 100000
set_option maxHeartbeats 8000000
theorem getD_mem {ns : List Int} {i : Nat} (h : i < ns.length) : ns.getD i 0 ∈ ns := by
  have e : ns.getD i 0 = ns[i] := by simp [List.getD, h]
  rw [e]
  exact List.getElem_mem h

local macro_rules | `(tactic| walk_at "call ref") => `(tactic| (k_here; (with_reducible show wpAny _ _ (call (Value.ref _) [Value.ref _, Value.int _ _]) _ _ _); k_dflt (refine' take_use ?k1 ?k2 ?k3 ?k4 ?k5 ?kK ?kU ?p1 ?p2 ?p3 ?p4 ?p5 ?kd ?ku ?_; (case k1 => k_asm); (case k2 => k_asm); (case k3 => k_asm); (case k4 => k_asm); (case k5 => k_asm); (case kK => first | exact rfl | assumption); (case kU => k_updF); (case p1 => omega); (case p2 => omega); (case p3 => omega); (case p4 => omega); (case p5 => omega); (case kd => ktr_room); (case ku => ktr_units); k_whole); intro r' a' b' t' ta' tb' h' tk' r1' r2' r3' r4' r5' F' N'; (try dsimp only at N'); (try k_sweep); (try dsimp only); (try k_fold)))

theorem one_c (w : World) (mean : ExcName → Option Value) (mg mb : Str → Option Value) (S D : Addr) (a b : Int) (ta tb : Tok) (n c : Nat) (vs : List Value) (ns : List Int) (rest : Led)
    (hoff : OwnOff ((D, listOf vs.toArray c) :: rest) [S]) (hi : IntsAre vs ns) (hl1 : 1 ≤ ns.length) (hl2 : ns.length ≤ 1000) (ha : 0 ≤ a) (hb : 0 ≤ b) (hb2 : b < 2147483647) :
    Claim 91 [.ref S, .ref D] ((S, listOf #[.int a ta, .int b tb] n) :: (D, listOf vs.toArray c) :: rest) 3 24 w mean mg mb (fun h₀ L m s Q =>
      ∀ (r a' b' : Int) (t ta' tb' : Tok) (h' : Heap) (tk' : Nat), r ∈ ns → 0 ≤ a' → 0 ≤ b' → b' < 2147483647 →
        Fr h₀ L h' m → News h₀ L h' ((S, listOf #[.int a' ta', .int b' tb'] n) :: (D, listOf vs.toArray c) :: rest) → Q (.int r t) { s with heap := h', toks := tk' }) := by
  intro dp un gd cn cs aa ccd cl outer A₀ base h₀ L m s Q E B F X N T hk hd hu hret
  refine wpAny_call ?_
  k_dflt cell_enter
  k_steps
  all_goals (
    refine hret _ _ _ _ _ _ _ _ ?_ ?_ ?_ ?_ (by k_asm) (by k_asm)
    all_goals first | omega | exact getD_mem (by omega))

theorem one_use {w : World} {mean : ExcName → Option Value} {mg mb : Str → Option Value} {S D : Addr} {a b : Int} {ta tb : Tok} {n c : Nat} {vs : List Value} {ns : List Int} {news : Led} {g : Obj → Led}
    {dp un : Nat} {gd : Option (List Code)} {cn : Str} {cs : Scope} {aa : Addr} {ccd : Value} {cl : List (Str × Addr)} {outer : List Env} {A₀ : Around} {base h₀ : Heap} {L : Addr} {m : Str → Option Value} {s : Shared} {Q E : Value → Shared → Prop}
    (B : Below A₀ base outer h₀) (F : Fr h₀ L s.heap m) (X : (hd.heap_39 w.params).In h₀) (N : News h₀ L s.heap news) (T : Top hd.view_39 (looseW hd.view_39 []) mean mg mb h₀) (hk : cs.kind = .function)
    (U : UpdF S (listOf #[.int a ta, .int b tb] n) news g) (hD : (D, listOf vs.toArray c) ∈ news) (hDS : D ≠ S) (hi : IntsAre vs ns) (hl1 : 1 ≤ ns.length) (hl2 : ns.length ≤ 1000) (ha : 0 ≤ a) (hb : 0 ≤ b) (hb2 : b < 2147483647) (hd' : dp + 3 < recursionLimit) (hu : un + 24 < cLine)
    (h : ∀ (r a' b' : Int) (t ta' tb' : Tok) (h' : Heap) (tk' : Nat), r ∈ ns → 0 ≤ a' → 0 ≤ b' → b' < 2147483647 →
        Fr h₀ L h' m → News h₀ L h' (g (listOf #[.int a' ta', .int b' tb'] n)) → Q (.int r t) { s with heap := h', toks := tk' }) :
    wpAny (model PySem.Challenge.rw_nu0117_01.row.prog w) (ktrTop dp un gd cn cs L aa ccd cl outer) (call (.ref 91) [.ref S, .ref D]) Q E s := by
  obtain ⟨pre, post, e1, e2, o1, o2⟩ := U.split
  subst e1
  have off : ∀ p ∈ pre ++ post, p.1 ≠ S := fun p hp => (List.mem_append.mp hp).elim (o1 p) (o2 p)
  refine one_c w mean mg mb S D a b ta tb n c vs ns (pre ++ post) (fun p hp q hq => ?_) hi hl1 hl2 ha hb hb2 _ _ _ _ _ _ _ _ _ _ _ _ _ _ _ _ _ B F X (fun p hp => ?_) T hk hd' hu ?_
  · rw [List.mem_singleton.mp hq]
    rcases List.mem_cons.mp hp with rfl | hp
    · exact hDS
    · exact off p hp
  · rcases List.mem_cons.mp hp with rfl | hp
    · exact N _ (List.mem_append.mpr (.inr (.head _)))
    · rcases List.mem_cons.mp hp with rfl | hp
      · exact N _ hD
      · exact N p ((List.mem_append.mp hp).elim (fun x => List.mem_append.mpr (.inl x)) fun x => List.mem_append.mpr (.inr (.tail _ x)))
  · intro r a' b' t ta' tb' h' tk' r1 r2 r3 r4 F' N'
    refine h r a' b' t ta' tb' h' tk' r1 r2 r3 r4 F' fun p hp => N' p ?_
    rw [e2] at hp
    rcases List.mem_append.mp hp with hp | hp
    · exact .tail _ (.tail _ (List.mem_append.mpr (.inl hp)))
    · rcases List.mem_cons.mp hp with rfl | hp
      · exact .head _
      · exact .tail _ (.tail _ (List.mem_append.mpr (.inr hp)))
end

/-! part 3 -/
section
set_option maxRecDepth 100000
set_option maxHeartbeats 8000000
theorem ite01 {p : Prop} [Decidable p] : 0 ≤ (if p then (1 : Int) else 0) := by split <;> decide
theorem pool_c {w : World} {mean : ExcName → Option Value} {mg mb : Str → Option Value} {l : Addr} {vs : List Value} {ns : List Int} {k : Int} {kt : Tok} {news : Led}
    {dp un : Nat} {gd : Option (List Code)} {cn : Str} {cs : Scope} {aa : Addr} {ccd : Value} {cl : List (Str × Addr)} {outer : List Env} {A₀ : Around} {base h₀ : Heap} {L : Addr} {m : Str → Option Value} {s : Shared} {Q E : Value → Shared → Prop}
    (B : Below A₀ base outer h₀) (F : Fr h₀ L s.heap m) (X : (hd.heap_39 w.params).In h₀) (N : News h₀ L s.heap news) (T : Top hd.view_39 (looseW hd.view_39 []) mean mg mb h₀) (hk : cs.kind = .function)
    (hl : base.IsList l vs.toArray) (hi : IntsAre vs ns) (hlen : ns.length < 2 ^ 62) (hk0 : 0 ≤ k) (hk3 : k < 1000) (hd' : dp + 3 < recursionLimit) (hu : un + 24 < cLine)
    (hret : ∀ (a' b' : Int) (ta' tb' : Tok) (S : Addr) (n : Nat) (h' : Heap) (tk' : Nat), 0 ≤ a' → 0 ≤ b' → b' < 2147483647 → (∀ p ∈ news, p.1 < S) →
        Fr h₀ L h' m → News h₀ L h' ((S, listOf #[.int a' ta', .int b' tb'] n) :: news) → Q (.ref S) { s with heap := h', toks := tk' }) :
    wpAny (model PySem.Challenge.rw_nu0117_01.row.prog w) (ktrTop dp un gd cn cs L aa ccd cl outer) (call (.ref 77) [.ref l, .int k kt]) Q E s := by
  refine wpAny_call ?_
  k_dflt cell_enter
  k_steps
  all_goals (
    refine hret _ _ _ _ _ _ _ _ ?_ ?_ ?_ ?_ (by k_asm) (by k_asm)
    · exact Int.mul_nonneg (by split <;> omega) ite01
    · rw [Int.fmod_eq_emod_of_nonneg _ (by decide)]
      exact Int.emod_nonneg _ (by decide)
    · rw [Int.fmod_eq_emod_of_nonneg _ (by decide)]
      exact Int.emod_lt_of_pos _ (by decide)
    · assumption)
end

/-! part 4 -/
section
set_option maxRecDepth 100000
set_option maxHeartbeats 8000000
theorem rangeG {prog : Program} {w : World} {A : Around} {E : Value → Shared → Prop} {s : Shared} {env : Env} {h₀ : Heap} {x : Str} {body : List Stmt} {Q : Flow → Shared → Prop}
    {r : Addr} {b₀ : Int} {t₀ u₀ v₀ : Tok} {m₀ : Str → Option Value} {news : Led} (J : Nat → (Str → Option Value) → Led → Prop)
    (hh : A.handled = none) (hr : IsRange s.heap r 0 b₀ 1 t₀ u₀ v₀) (hb0 : 0 ≤ b₀) (hb1 : b₀ < 1000000) (F : Fr h₀ env.locals s.heap m₀) (N : News h₀ env.locals s.heap news) (hj : J 0 m₀ news)
    (turn : ∀ (i : Nat) t m₁ nx h tk own, (i : Int) < b₀ → OwnOff own (nx.map (·.1)) → J i m₁ nx → Fr h₀ env.locals h (fun y => if y = x then some (.int (i : Int) t) else m₁ y) → News h₀ env.locals h (nx ++ own) →
      wpAny (model prog w) A (execs body env) (InvPostG h₀ env.locals (J (i + 1)) own { s with heap := h, toks := tk } Q) E { s with heap := h, toks := tk })
    (done : ∀ (n : Nat) m₁ nx h tk, (n : Int) = b₀ → J n m₁ nx → Fr h₀ env.locals h m₁ → News h₀ env.locals h nx → Q .next { s with heap := h, toks := tk }) :
    wpAny (model prog w) A (pyIter (.ref r)) (fun it s₂ => LoopAtV prog w A h₀ env x body Q E it s₂) E s := by
  have hsz : Builtin.Range.rangeSize 0 b₀ 1 = ((b₀.toNat : Nat) : Int) := by
    rw [rangeSize_one]
    split <;> omega
  refine wpAny_pyIter_range hr (small_one (by omega) (by omega) (by omega) (by omega)) ?_
  have W : Walks prog w A s.heap.objs.size [s.heap.objs.size] [s.heap.objs.size] b₀.toNat (fun i v => ∃ t, v = .int (0 + i * 1) t)
      (fun i h => IsRangeIter h s.heap.objs.size (0 + (i : Nat) * 1) ((b₀.toNat : Int) - (i : Nat)) 1) := Walks.range hh _ 0 1 b₀.toNat
  refine kdr_loop J W (fun _ h => h) (fun _ h => h) ?_ ?_ ?_ ?_ (by show IsRangeIter _ _ _ _ _; rw [hsz]; simpa using Heap.get?_push_size _ rfl) (F.push _) (fun p hp => ⟨Heap.get?_push_of_some _ (N p hp).1, (N p hp).2⟩) hj ?_ ?_
  · intro i h hi b hb
    rw [List.mem_singleton.mp hb]
    exact ⟨_, hi⟩
  · intro hm
    exact absurd F.ns.lt ((List.mem_singleton.mp hm) ▸ Nat.lt_irrefl _)
  · intro b hb
    rw [List.mem_singleton.mp hb]
    exact next_is_new F
  · intro p hp hI
    exact absurd (Heap.lt_size (N p hp).1) ((List.mem_singleton.mp hI) ▸ Nat.lt_irrefl _)
  · rintro i v m₁ nx h tk own hi ⟨t, rfl⟩ hoff hJ F₁ N₁
    have e1 : (0 : Int) + (i : Int) * 1 = (i : Int) := by omega
    rw [e1] at F₁
    exact turn i t m₁ nx h tk own (by omega) hoff hJ F₁ N₁
  · intro m₁ nx h tk hJ F₁ N₁
    exact done b₀.toNat m₁ nx h tk (by omega) hJ F₁ N₁

theorem map2 {m : Str → Option Value} {x1 x2 : Str} {v1 v2 : Value} (h1 : m x1 = some v1) (h2 : m x2 = some v2) :
    m = fun y => if y = x1 then some v1 else if y = x2 then some v2 else m y := by
  funext y
  by_cases e1 : y = x1
  · rw [if_pos e1, e1, h1]
  · rw [if_neg e1]
    by_cases e2 : y = x2
    · rw [if_pos e2, e2, h2]
    · rw [if_neg e2]

def Hold (P : Prop) : Prop := P
theorem hold {P : Prop} (h : Hold P) : P := h

def TimesJ (S : Addr) (n : Nat) (rest : Led) (i : Nat) (m : Str → Option Value) (nx : Led) : Prop :=
  ∃ (D : Addr) (vs : List Value) (ns : List Int) (c : Nat) (a b : Int) (ta tb : Tok),
    nx = (D, listOf vs.toArray c) :: (S, listOf #[.int a ta, .int b tb] n) :: rest ∧ IntsAre vs ns ∧ ns.length ≤ 5 * i ∧ (∀ v ∈ ns, 0 ≤ v ∧ v ≤ 1000000) ∧ @LT.lt Nat _ S D ∧ AllLt D rest ∧ 0 ≤ a ∧ 0 ≤ b ∧ b < 2147483647 ∧
    m (Str.ofString "found") = some (.ref D) ∧ m (Str.ofString "source") = some (.ref S)

theorem allLt_app {D : Addr} : ∀ {a b : Led}, AllLt D (a ++ b) → AllLt D a ∧ AllLt D b
  | [], _, h => ⟨trivial, h⟩
  | _ :: _, _, h => ⟨⟨h.1, (allLt_app h.2).1⟩, (allLt_app h.2).2⟩

theorem times_end {S D D' : Addr} {n i k c : Nat} {rest own news' : Led} {vs ws : List Value} {ns : List Int} {r a b : Int} {ta tb : Tok} {h₀ h' : Heap} {L : Addr} {m' : Str → Option Value} {s₁ : Shared} {tk : Nat} {o0 : Obj}
    (F : Fr h₀ L h' m') (N : News h₀ L h' news') (hI : IntsAre ws (ns ++ (List.replicate k [r]).flatten)) (hL : ns.length ≤ 5 * i) (hV : ∀ v ∈ ns, 0 ≤ v ∧ v ≤ 1000000) (hr : List.Mem r ([0, 1, 3, 7, 20, 21, 100, 1000] : List Int)) (hk : k ≤ 5)
    (hS : @LT.lt Nat _ S D') (hA : AllLt D' (rest ++ own)) (hO : OwnOff own ((D, listOf vs.toArray c) :: (S, o0) :: rest |>.map (·.1)))
    (ha : 0 ≤ a) (hb : 0 ≤ b) (hb2 : b < 2147483647) (hm1 : m' (Str.ofString "found") = some (.ref D')) (hm2 : m' (Str.ofString "source") = some (.ref S))
    (i1 : (D', listOf ws.toArray 0) ∈ news') (i2 : (S, listOf #[.int a ta, .int b tb] n) ∈ news') (i3 : ∀ p ∈ rest ++ own, p ∈ news') :
    InvEndG h₀ L (TimesJ S n rest (i + 1)) own s₁ { s₁ with heap := h', toks := tk } := by
  obtain ⟨hA1, hA2⟩ := allLt_app hA
  refine InvEndG.intro (nx := (D', listOf ws.toArray 0) :: (S, listOf #[.int a ta, .int b tb] n) :: rest) F N ⟨D', ws, _, 0, a, b, ta, tb, rfl, hI, ?_, ?_, hS, hA1, ha, hb, hb2, hm1, hm2⟩ ?_ ?_ ?_
  · rw [List.length_append, KM.len_rep, List.length_singleton]
    omega
  · intro v hv
    rcases List.mem_append.mp hv with hv | hv
    · exact hV v hv
    · obtain ⟨l, hl, hv⟩ := List.mem_flatten.mp hv
      rw [(List.mem_replicate.mp hl).2] at hv
      rw [List.mem_singleton.mp hv]
      replace hr : r ∈ ([0, 1, 3, 7, 20, 21, 100, 1000] : List Int) := hr
      simp only [List.mem_cons, List.not_mem_nil, or_false] at hr
      omega
  · intro p hp q hq
    simp only [List.map_cons, List.mem_cons] at hq
    rcases hq with rfl | hq
    · exact Nat.ne_of_lt (ktn_ltOf hA2 p hp)
    · exact hO p hp q (by simp only [List.map_cons, List.mem_cons]; exact .inr hq)
  · intro p hp
    rcases List.mem_cons.mp hp with rfl | hp
    · exact i1
    · rcases List.mem_cons.mp hp with rfl | hp
      · exact i2
      · exact i3 p (List.mem_append.mpr (.inl hp))
  · exact fun p hp => i3 p (List.mem_append.mpr (.inr hp))

local macro_rules | `(tactic| walk_at "call ref") => `(tactic| (k_here; (with_reducible show wpAny _ _ (call (Value.ref _) [Value.ref _, Value.int _ _]) _ _ _); k_dflt (refine' take_use ?k1 ?k2 ?k3 ?k4 ?k5 ?kK ?kU ?p1 ?p2 ?p3 ?p4 ?p5 ?kd ?ku ?_; (case k1 => k_asm); (case k2 => k_asm); (case k3 => k_asm); (case k4 => k_asm); (case k5 => k_asm); (case kK => first | exact rfl | assumption); (case kU => k_updF); (case p1 => omega); (case p2 => omega); (case p3 => omega); (case p4 => omega); (case p5 => omega); (case kd => ktr_room); (case ku => ktr_units); k_whole); intro r' a' b' t' ta' tb' h' tk' r1' r2' r3' r4' r5' F' N'; (try dsimp only at N'); (try k_sweep); (try dsimp only); (try k_fold)))
local macro_rules | `(tactic| walk_at "call ref") => `(tactic| (k_here; (with_reducible show wpAny _ _ (call (Value.ref _) [Value.ref _, Value.ref _]) _ _ _); k_dflt (refine' one_use ?k1 ?k2 ?k3 ?k4 ?k5 ?kK ?kU ?kD ?kDS ?ki ?p1 ?p2 ?p3 ?p4 ?p5 ?kd ?ku ?_; (case k1 => k_asm); (case k2 => k_asm); (case k3 => k_asm); (case k4 => k_asm); (case k5 => k_asm); (case kK => first | exact rfl | assumption); (case kU => k_updF); (case kD => k_mem); (case kDS => k_ne); (case ki => l_ints); (case p1 => (simp only [List.length_cons]; omega)); (case p2 => (simp only [List.length_cons, List.length_nil]; omega)); (case p3 => omega); (case p4 => omega); (case p5 => omega); (case kd => ktr_room); (case ku => ktr_units); k_whole); intro r' a' b' t' ta' tb' h' tk' r1' r2' r3' r4' F' N'; (try dsimp only at N'); (try k_sweep); (try dsimp only); (try k_fold)))
local macro_rules | `(tactic| walk_at "exec For Name Call cons nil") => `(tactic| (k_here; (rename Fr _ _ _ _ => lF'); (with_unfolding_all refine' For_invVF lF' ?k1 ?k2 ?_; (case k1 => exact rfl); (case k2 => exact rfl); k_whole)))
local macro_rules | `(tactic| walk_at "pyIter ref") => `(tactic| ((with_reducible show wpAny _ _ (pyIter (Value.ref _)) (fun it s₂ => LoopAtV _ _ _ _ _ _ _ _ _ it s₂) _ _); refine hold ?_))

theorem times_start {S D : Addr} {n : Nat} {rest : Led} {m : Str → Option Value} {a b : Int} {ta tb : Tok} (h1 : @LT.lt Nat _ S D) (h2 : AllLt D rest) (ha : 0 ≤ a) (hb : 0 ≤ b) (hb2 : b < 2147483647)
    (hm1 : m (Str.ofString "found") = some (.ref D)) (hm2 : m (Str.ofString "source") = some (.ref S)) : TimesJ S n rest 0 m ((D, listOf #[] 0) :: (S, listOf #[.int a ta, .int b tb] n) :: rest) :=
  ⟨D, [], [], 0, a, b, ta, tb, rfl, .nil, Nat.le_refl _, (fun _ h => nomatch h), h1, h2, ha, hb, hb2, hm1, hm2⟩

theorem off_app {S : Addr} {rest own : Led} (h1 : OwnOff rest [S]) {adr : List Addr} (h2 : OwnOff own adr) (hS : S ∈ adr) : OwnOff (rest ++ own) [S] := by
  intro p hp q hq
  rw [List.mem_singleton.mp hq]
  exact (List.mem_append.mp hp).elim (fun h => h1 p h S (List.mem_singleton.mpr rfl)) fun h => h2 p h S hS

theorem times_c (w : World) (mean : ExcName → Option Value) (mg mb : Str → Option Value) (S : Addr) (a b : Int) (ta tb : Tok) (n : Nat) (rest : Led)
    (hoff : OwnOff rest [S]) (ha : 0 ≤ a) (hb : 0 ≤ b) (hb2 : b < 2147483647) :
    Claim 105 [.ref S] ((S, listOf #[.int a ta, .int b tb] n) :: rest) 5 40 w mean mg mb (fun h₀ L m s Q =>
      ∀ (D : Addr) (vs : List Value) (ns : List Int) (c : Nat) (a' b' : Int) (ta' tb' : Tok) (h' : Heap) (tk' : Nat), IntsAre vs ns → ns.length ≤ 20 → (∀ v ∈ ns, 0 ≤ v ∧ v ≤ 1000000) → @LT.lt Nat _ S D → AllLt D rest → 0 ≤ a' → 0 ≤ b' → b' < 2147483647 →
        Fr h₀ L h' m → News h₀ L h' ((D, listOf vs.toArray c) :: (S, listOf #[.int a' ta', .int b' tb'] n) :: rest) → Q (.ref D) { s with heap := h', toks := tk' }) := by
  intro dp un gd cn cs aa ccd cl outer A₀ base h₀ L m s Q E B F X N T hk hd hu hret
  refine wpAny_call ?_
  k_dflt cell_enter
  k_steps
  unfold Hold
  rename Fr _ _ _ _ => lF
  rename News _ _ _ _ => lN
  rename IsRange _ _ _ _ _ _ _ _ => rgX
  with_unfolding_all refine' rangeG (TimesJ S n rest) (by rfl) rgX (by omega) (by omega) lF lN ?_ ?_ ?_
  · exact times_start (by omega) (And.right (by assumption)) (by omega) (by omega) (by omega) rfl rfl
  · intro i t m₁ nx h tk own hi hoff1 hJ F₁ N₁
    obtain ⟨D, vs, ns, c, a1, b1, ta1, tb1, rfl, hI, hL, hV, hSD, hRD, ha1, hb1, hb12, hm1, hm2⟩ := hJ
    rw [map2 hm1 hm2] at F₁
    simp only [List.cons_append] at N₁
    have hO : OwnOff (rest ++ own) [S] := off_app hoff hoff1 (.tail _ (.head _))
    clear lF lN
    with_reducible show wpAny _ _ _ _ _ _
    k_fold
    k_steps
    rename Fr _ _ _ _ => F9
    rename News _ _ _ _ => N9
    rename IntsAre _ (_ ++ _) => hZ
    rename _ ∧ _ ∧ _ ∧ _ ∧ _ ∧ AllLt _ _ => hA9
    rename List.Mem _ _ => hr9
    obtain ⟨_, _, _, _, hSD9, hA9⟩ := hA9
    refine times_end (D := D) (vs := vs) (c := c) (k := _) F9 N9 hZ hL hV hr9 (by omega) hSD9 hA9 hoff1 ?_ ?_ ?_ rfl rfl (by k_memK) (by k_memK) ?_
    all_goals first | omega | k_memK | (intro p hp; repeat (first | exact hp | refine List.Mem.tail _ ?_))
  · intro nn m₁ nx h tk hnn hJ F₁ N₁
    obtain ⟨D, vs, ns, c, a1, b1, ta1, tb1, rfl, hI, hL, hV, hSD, hRD, ha1, hb1, hb12, hm1, hm2⟩ := hJ
    rw [map2 hm1 hm2] at F₁
    clear lF lN
    dsimp only
    k_steps
    refine hret D vs ns c a1 b1 ta1 tb1 _ _ hI (by omega) hV hSD hRD ha1 hb1 hb12 (by k_asm) (by k_asm)

theorem allLt_join {D : Addr} : ∀ {a b : Led}, AllLt D a → AllLt D b → AllLt D (a ++ b)
  | [], _, _, h => h
  | _ :: _, _, h1, h2 => ⟨h1.1, allLt_join h1.2 h2⟩

theorem times_use {w : World} {mean : ExcName → Option Value} {mg mb : Str → Option Value} {S : Addr} {a b : Int} {ta tb : Tok} {n : Nat} {news : Led} {g : Obj → Led}
    {dp un : Nat} {gd : Option (List Code)} {cn : Str} {cs : Scope} {aa : Addr} {ccd : Value} {cl : List (Str × Addr)} {outer : List Env} {A₀ : Around} {base h₀ : Heap} {L : Addr} {m : Str → Option Value} {s : Shared} {Q E : Value → Shared → Prop}
    (B : Below A₀ base outer h₀) (F : Fr h₀ L s.heap m) (X : (hd.heap_39 w.params).In h₀) (N : News h₀ L s.heap news) (T : Top hd.view_39 (looseW hd.view_39 []) mean mg mb h₀) (hk : cs.kind = .function)
    (U : UpdF S (listOf #[.int a ta, .int b tb] n) news g) (ha : 0 ≤ a) (hb : 0 ≤ b) (hb2 : b < 2147483647) (hd' : dp + 5 < recursionLimit) (hu : un + 40 < cLine)
    (h : ∀ (D : Addr) (vs : List Value) (ns : List Int) (c : Nat) (a' b' : Int) (ta' tb' : Tok) (h' : Heap) (tk' : Nat), IntsAre vs ns → ns.length ≤ 20 → (∀ v ∈ ns, 0 ≤ v ∧ v ≤ 1000000) → AllLt D (g (listOf #[.int a' ta', .int b' tb'] n)) → 0 ≤ a' → 0 ≤ b' → b' < 2147483647 →
        Fr h₀ L h' m → News h₀ L h' ((D, listOf vs.toArray c) :: g (listOf #[.int a' ta', .int b' tb'] n)) → Q (.ref D) { s with heap := h', toks := tk' }) :
    wpAny (model PySem.Challenge.rw_nu0117_01.row.prog w) (ktrTop dp un gd cn cs L aa ccd cl outer) (call (.ref 105) [.ref S]) Q E s := by
  obtain ⟨pre, post, e1, e2, o1, o2⟩ := U.split
  subst e1
  refine times_c w mean mg mb S a b ta tb n (pre ++ post) (fun p hp q hq => ?_) ha hb hb2 _ _ _ _ _ _ _ _ _ _ _ _ _ _ _ _ _ B F X (fun p hp => N p ?_) T hk hd' hu ?_
  · rw [List.mem_singleton.mp hq]
    exact (List.mem_append.mp hp).elim (o1 p) (o2 p)
  · rcases List.mem_cons.mp hp with rfl | hp
    · exact List.mem_append.mpr (.inr (.head _))
    · exact (List.mem_append.mp hp).elim (fun x => List.mem_append.mpr (.inl x)) fun x => List.mem_append.mpr (.inr (.tail _ x))
  · intro D vs ns c a' b' ta' tb' h' tk' r1 r2 r3 r4 r5 r6 r7 r8 F' N'
    refine h D vs ns c a' b' ta' tb' h' tk' r1 r2 r3 ?_ r6 r7 r8 F' fun p hp => N' p ?_
    · rw [e2]
      exact allLt_join (allLt_app r5).1 ⟨r4, (allLt_app r5).2⟩
    · rcases List.mem_cons.mp hp with rfl | hp
      · exact .head _
      · rw [e2] at hp
        rcases List.mem_append.mp hp with hp | hp
        · exact .tail _ (.tail _ (List.mem_append.mpr (.inl hp)))
        · rcases List.mem_cons.mp hp with rfl | hp
          · exact .tail _ (.head _)
          · exact .tail _ (.tail _ (List.mem_append.mpr (.inr hp)))
end

/-! part 5 -/
section
set_option maxRecDepth 100000
set_option maxHeartbeats 8000000
abbrev estOf (w : World) (k1 k2 k3 k4 k5 k6 t1 t2 t3 t4 t5 t6 : Tok) (fi le mo m8 s4 me : Int) : Obj :=
  dictOf [⟨PyData.keyHash w.params (Str.ofString "first"), .str (Str.ofString "first") k1, .int fi t1⟩, ⟨PyData.keyHash w.params (Str.ofString "least"), .str (Str.ofString "least") k2, .int le t2⟩, ⟨PyData.keyHash w.params (Str.ofString "most"), .str (Str.ofString "most") k3, .int mo t3⟩, ⟨PyData.keyHash w.params (Str.ofString "mean8"), .str (Str.ofString "mean8") k4, .int m8 t4⟩, ⟨PyData.keyHash w.params (Str.ofString "spread4"), .str (Str.ofString "spread4") k5, .int s4 t5⟩, ⟨PyData.keyHash w.params (Str.ofString "measured"), .str (Str.ofString "measured") k6, .int me t6⟩] 6

local macro_rules | `(tactic| walk_at "call ref") => `(tactic| (k_here; k_dflt (first | (refine' call_cls ?k1 ?k2 ?k3 ?k4 ?k5 ?k6 ?_; (case k1 => k_asm); (case k2 => k_asm); (case k3 => k_asm); (case k4 => k_is); (case k5 => k_is); (case k6 => k_is); k_whole; intro x' d' h' F' N' l1 l2; (try k_lt l1); (try k_lt2 l2); (try k_sweep); ((have hK9 : ScopeKind.function = ScopeKind.function := rfl); cell_enter)) | (refine' call_meth ?k1 ?k2 ?_; (case k1 => k_asm); (case k2 => k_mem); k_whole; ((have hK9 : ScopeKind.function = ScopeKind.function := rfl); cell_enter)) | (refine wpAny_call ?_; ((have hK9 : ScopeKind.function = ScopeKind.function := rfl); cell_enter)))))

theorem made_use {w : World} {mean : ExcName → Option Value} {mg mb : Str → Option Value} {news : Led} {fi le mo : Int} {t1 t2 t3 : Tok} {dp un : Nat} {gd : Option (List Code)} {cn : Str} {cs : Scope} {aa : Addr} {ccd : Value} {cl : List (Str × Addr)} {outer : List Env} {A₀ : Around} {base h₀ : Heap} {L : Addr} {m : Str → Option Value} {s : Shared} {Q E : Value → Shared → Prop}
    (B : Below A₀ base outer h₀) (F : Fr h₀ L s.heap m) (X : (hd.heap_39 w.params).In h₀) (N : News h₀ L s.heap (news)) (T : Top hd.view_39 (looseW hd.view_39 []) mean mg mb h₀) (hk : cs.kind = .function) (hd' : dp + 3 < recursionLimit) (hu : un + 24 < cLine)
    (hret : ∀ (x d : Addr) (k1 k2 k3 k4 k5 k6 t4 t5 t6 : Tok) (h' : Heap) (tk' : Nat), AllLt d news → @LT.lt Nat _ d x → Fr h₀ L h' m → News h₀ L h' ((x, instObj 66 d) :: (d, estOf w k1 k2 k3 k4 k5 k6 t1 t2 t3 t4 t5 t6 fi le mo 0 0 0) :: news) → Q (.ref x) { s with heap := h', toks := tk' }) :
    wpAny (model PySem.Challenge.rw_nu0117_01.row.prog w) (ktrTop dp un gd cn cs L aa ccd cl outer) (call (.ref 66) [.int fi t1, .int le t2, .int mo t3]) Q E s := by
  k_steps
  refine hret _ _ _ _ _ _ _ _ _ _ _ _ _ (allLt_of (by assumption)) (by assumption) (by k_asm) (by k_asm)

theorem mean_use {w : World} {mean : ExcName → Option Value} {mg mb : Str → Option Value} {news : Led} {x d : Addr} {k1 k2 k3 k4 k5 k6 t1 t2 t3 t4 t5 t6 : Tok} {fi le mo m8 s4 me : Int} {dp un : Nat} {gd : Option (List Code)} {cn : Str} {cs : Scope} {aa : Addr} {ccd : Value} {cl : List (Str × Addr)} {outer : List Env} {A₀ : Around} {base h₀ : Heap} {L : Addr} {m : Str → Option Value} {s : Shared} {Q E : Value → Shared → Prop}
    (B : Below A₀ base outer h₀) (F : Fr h₀ L s.heap m) (X : (hd.heap_39 w.params).In h₀) (N : News h₀ L s.heap (news)) (T : Top hd.view_39 (looseW hd.view_39 []) mean mg mb h₀) (hk : cs.kind = .function) (hx : (x, instObj 66 d) ∈ news) (hdx : (d, estOf w k1 k2 k3 k4 k5 k6 t1 t2 t3 t4 t5 t6 fi le mo m8 s4 me) ∈ news) (hd' : dp + 3 < recursionLimit) (hu : un + 24 < cLine)
    (hret : ∀ (t : Tok) (h' : Heap) (tk' : Nat), Fr h₀ L h' m → News h₀ L h' news → Q (.int (m8 / 8) t) { s with heap := h', toks := tk' }) :
    wpAny (model PySem.Challenge.rw_nu0117_01.row.prog w) (ktrTop dp un gd cn cs L aa ccd cl outer) (call (.ref 42) [.ref x]) Q E s := by
  have e8 : m8.fdiv 8 = m8 / 8 := Int.fdiv_eq_ediv_of_nonneg _ (by decide)
  k_steps
  all_goals exact cb_retI hret (by first | omega | ((repeat' split) <;> omega)) (by k_asm) (by k_asm)

theorem timeout_use {w : World} {mean : ExcName → Option Value} {mg mb : Str → Option Value} {news : Led} {x d : Addr} {k1 k2 k3 k4 k5 k6 t1 t2 t3 t4 t5 t6 : Tok} {fi le mo m8 s4 me : Int} {dp un : Nat} {gd : Option (List Code)} {cn : Str} {cs : Scope} {aa : Addr} {ccd : Value} {cl : List (Str × Addr)} {outer : List Env} {A₀ : Around} {base h₀ : Heap} {L : Addr} {m : Str → Option Value} {s : Shared} {Q E : Value → Shared → Prop}
    (B : Below A₀ base outer h₀) (F : Fr h₀ L s.heap m) (X : (hd.heap_39 w.params).In h₀) (N : News h₀ L s.heap (news)) (T : Top hd.view_39 (looseW hd.view_39 []) mean mg mb h₀) (hk : cs.kind = .function) (hx : (x, instObj 66 d) ∈ news) (hdx : (d, estOf w k1 k2 k3 k4 k5 k6 t1 t2 t3 t4 t5 t6 fi le mo m8 s4 me) ∈ news) (hle : le ≤ mo) (hd' : dp + 4 < recursionLimit) (hu : un + 32 < cLine) (pt : Int) (hp0 : me = 0 → pt = fi) (hp1 : me ≠ 0 → pt = m8 / 8 + s4)
    (hret : ∀ (t : Tok) (h' : Heap) (tk' : Nat), Fr h₀ L h' m → News h₀ L h' news → Q (.int (min (max pt le) mo) t) { s with heap := h', toks := tk' }) :
    wpAny (model PySem.Challenge.rw_nu0117_01.row.prog w) (ktrTop dp un gd cn cs L aa ccd cl outer) (call (.ref 56) [.ref x]) Q E s := by
  have e8 : m8.fdiv 8 = m8 / 8 := Int.fdiv_eq_ediv_of_nonneg _ (by decide)
  k_steps
  all_goals exact cb_retI hret (by first | omega | ((repeat' split) <;> omega)) (by k_asm) (by k_asm)

theorem cut_use {w : World} {mean : ExcName → Option Value} {mg mb : Str → Option Value} {news : Led} {t le mo : Int} {t1 t2 t3 : Tok} {dp un : Nat} {gd : Option (List Code)} {cn : Str} {cs : Scope} {aa : Addr} {ccd : Value} {cl : List (Str × Addr)} {outer : List Env} {A₀ : Around} {base h₀ : Heap} {L : Addr} {m : Str → Option Value} {s : Shared} {Q E : Value → Shared → Prop}
    (B : Below A₀ base outer h₀) (F : Fr h₀ L s.heap m) (X : (hd.heap_39 w.params).In h₀) (N : News h₀ L s.heap (news)) (T : Top hd.view_39 (looseW hd.view_39 []) mean mg mb h₀) (hk : cs.kind = .function) (hle : le ≤ mo) (hd' : dp + 3 < recursionLimit) (hu : un + 24 < cLine)
    (hret : ∀ (t' : Tok) (h' : Heap) (tk' : Nat), Fr h₀ L h' m → News h₀ L h' news → Q (.int (min (max t le) mo) t') { s with heap := h', toks := tk' }) :
    wpAny (model PySem.Challenge.rw_nu0117_01.row.prog w) (ktrTop dp un gd cn cs L aa ccd cl outer) (call (.ref 98) [.int t t1, .int le t2, .int mo t3]) Q E s := by
  k_steps
  all_goals exact cb_retI hret (by first | omega | ((repeat' split) <;> omega)) (by k_asm) (by k_asm)

theorem sample_back {w : World} {rest : Led} {x d : Addr} {k1 k2 k3 k4 k5 k6 t1 t2 t3 : Tok} {fi le mo m8 s4 me : Int} {y8 y4 ye : Int} {u4 u5 u6 : Tok} {h₀ h' : Heap} {L : Addr} {m : Str → Option Value} {s : Shared} {Q : Value → Shared → Prop} {tk' : Nat}
    (hret : ∀ (u4 u5 u6 : Tok) (h' : Heap) (tk' : Nat), Fr h₀ L h' m → News h₀ L h' ((x, instObj 66 d) :: (d, estOf w k1 k2 k3 k4 k5 k6 t1 t2 t3 u4 u5 u6 fi le mo m8 s4 me) :: rest) → Q .none { s with heap := h', toks := tk' })
    (F : Fr h₀ L h' m) (N : News h₀ L h' ((x, instObj 66 d) :: (d, estOf w k1 k2 k3 k4 k5 k6 t1 t2 t3 u4 u5 u6 fi le mo y8 y4 ye) :: rest)) (e1 : y8 = m8) (e2 : y4 = s4) (e3 : ye = me) : Q .none { s with heap := h', toks := tk' } := by
  subst e1 e2 e3
  exact hret _ _ _ _ _ F N

theorem sample0_c {w : World} {mean : ExcName → Option Value} {mg mb : Str → Option Value} {rest : Led} {v : Int} {vt : Tok} {x d : Addr} {k1 k2 k3 k4 k5 k6 t1 t2 t3 t4 t5 t6 : Tok} {fi le mo m8 s4 me : Int} {dp un : Nat} {gd : Option (List Code)} {cn : Str} {cs : Scope} {aa : Addr} {ccd : Value} {cl : List (Str × Addr)} {outer : List Env} {A₀ : Around} {base h₀ : Heap} {L : Addr} {m : Str → Option Value} {s : Shared} {Q E : Value → Shared → Prop}
    (B : Below A₀ base outer h₀) (F : Fr h₀ L s.heap m) (X : (hd.heap_39 w.params).In h₀) (N : News h₀ L s.heap ((x, instObj 66 d) :: (d, estOf w k1 k2 k3 k4 k5 k6 t1 t2 t3 t4 t5 t6 fi le mo m8 s4 me) :: rest)) (T : Top hd.view_39 (looseW hd.view_39 []) mean mg mb h₀) (hk : cs.kind = .function) (hxd : @LT.lt Nat _ d x) (hoff : OwnOff rest [d]) (hme : me = 0) (hd' : dp + 3 < recursionLimit) (hu : un + 24 < cLine)
    (hret : ∀ (u4 u5 u6 : Tok) (h' : Heap) (tk' : Nat), Fr h₀ L h' m → News h₀ L h' ((x, instObj 66 d) :: (d, estOf w k1 k2 k3 k4 k5 k6 t1 t2 t3 u4 u5 u6 fi le mo (8 * v) (2 * v) (1)) :: rest) → Q .none { s with heap := h', toks := tk' }) :
    wpAny (model PySem.Challenge.rw_nu0117_01.row.prog w) (ktrTop dp un gd cn cs L aa ccd cl outer) (call (.ref 35) [.ref x, .int v vt]) Q E s := by
  have e8 : m8.fdiv 8 = m8 / 8 := Int.fdiv_eq_ediv_of_nonneg _ (by decide)
  have e4 : s4.fdiv 4 = s4 / 4 := Int.fdiv_eq_ediv_of_nonneg _ (by decide)
  k_steps
  all_goals first | (exfalso; omega) | (refine sample_back hret (by k_asm) (by k_asm) ?_ ?_ ?_ <;> omega)

theorem sample1_c {w : World} {mean : ExcName → Option Value} {mg mb : Str → Option Value} {rest : Led} {v : Int} {vt : Tok} {x d : Addr} {k1 k2 k3 k4 k5 k6 t1 t2 t3 t4 t5 t6 : Tok} {fi le mo m8 s4 me : Int} {dp un : Nat} {gd : Option (List Code)} {cn : Str} {cs : Scope} {aa : Addr} {ccd : Value} {cl : List (Str × Addr)} {outer : List Env} {A₀ : Around} {base h₀ : Heap} {L : Addr} {m : Str → Option Value} {s : Shared} {Q E : Value → Shared → Prop}
    (B : Below A₀ base outer h₀) (F : Fr h₀ L s.heap m) (X : (hd.heap_39 w.params).In h₀) (N : News h₀ L s.heap ((x, instObj 66 d) :: (d, estOf w k1 k2 k3 k4 k5 k6 t1 t2 t3 t4 t5 t6 fi le mo m8 s4 me) :: rest)) (T : Top hd.view_39 (looseW hd.view_39 []) mean mg mb h₀) (hk : cs.kind = .function) (hxd : @LT.lt Nat _ d x) (hoff : OwnOff rest [d]) (hme : 1 ≤ me) (hd' : dp + 3 < recursionLimit) (hu : un + 24 < cLine)
    (hret : ∀ (u4 u5 u6 : Tok) (h' : Heap) (tk' : Nat), Fr h₀ L h' m → News h₀ L h' ((x, instObj 66 d) :: (d, estOf w k1 k2 k3 k4 k5 k6 t1 t2 t3 u4 u5 u6 fi le mo (m8 + (v - m8 / 8)) (s4 + max (v - m8 / 8) (m8 / 8 - v) - s4 / 4) (me + 1)) :: rest) → Q .none { s with heap := h', toks := tk' }) :
    wpAny (model PySem.Challenge.rw_nu0117_01.row.prog w) (ktrTop dp un gd cn cs L aa ccd cl outer) (call (.ref 35) [.ref x, .int v vt]) Q E s := by
  have e8 : m8.fdiv 8 = m8 / 8 := Int.fdiv_eq_ediv_of_nonneg _ (by decide)
  have e4 : s4.fdiv 4 = s4 / 4 := Int.fdiv_eq_ediv_of_nonneg _ (by decide)
  k_steps
  all_goals first | (exfalso; omega) | (refine sample_back hret (by k_asm) (by k_asm) ?_ ?_ ?_ <;> omega)

theorem sample0_use {w : World} {mean : ExcName → Option Value} {mg mb : Str → Option Value} {news : Led} {g : Obj → Led} {v : Int} {vt : Tok} {x d : Addr} {k1 k2 k3 k4 k5 k6 t1 t2 t3 t4 t5 t6 : Tok} {fi le mo m8 s4 me : Int} {dp un : Nat} {gd : Option (List Code)} {cn : Str} {cs : Scope} {aa : Addr} {ccd : Value} {cl : List (Str × Addr)} {outer : List Env} {A₀ : Around} {base h₀ : Heap} {L : Addr} {m : Str → Option Value} {s : Shared} {Q E : Value → Shared → Prop}
    (B : Below A₀ base outer h₀) (F : Fr h₀ L s.heap m) (X : (hd.heap_39 w.params).In h₀) (N : News h₀ L s.heap (news)) (T : Top hd.view_39 (looseW hd.view_39 []) mean mg mb h₀) (hk : cs.kind = .function) (U : UpdF d (estOf w k1 k2 k3 k4 k5 k6 t1 t2 t3 t4 t5 t6 fi le mo m8 s4 me) news g) (hx : (x, instObj 66 d) ∈ news) (hxd : @LT.lt Nat _ d x) (hme : me = 0) (hd' : dp + 3 < recursionLimit) (hu : un + 24 < cLine)
    (hret : ∀ (u4 u5 u6 : Tok) (h' : Heap) (tk' : Nat), Fr h₀ L h' m → News h₀ L h' (g (estOf w k1 k2 k3 k4 k5 k6 t1 t2 t3 u4 u5 u6 fi le mo (8 * v) (2 * v) (1))) → Q .none { s with heap := h', toks := tk' }) :
    wpAny (model PySem.Challenge.rw_nu0117_01.row.prog w) (ktrTop dp un gd cn cs L aa ccd cl outer) (call (.ref 35) [.ref x, .int v vt]) Q E s := by
  obtain ⟨pre, post, e1, e2, o1, o2⟩ := U.split
  subst e1
  refine sample0_c (rest := pre ++ post) (k1 := k1) (k2 := k2) (k3 := k3) (k4 := k4) (k5 := k5) (k6 := k6) (t1 := t1) (t2 := t2) (t3 := t3) (t4 := t4) (t5 := t5) (t6 := t6) (fi := fi) (le := le) (mo := mo) (m8 := m8) (s4 := s4) (me := me) B F X (fun p hp => ?_) T hk hxd (fun p hp q hq => ?_) hme hd' hu ?_
  · rcases List.mem_cons.mp hp with rfl | hp
    · exact N _ hx
    · rcases List.mem_cons.mp hp with rfl | hp
      · exact N _ (List.mem_append.mpr (.inr (.head _)))
      · exact N p ((List.mem_append.mp hp).elim (fun x => List.mem_append.mpr (.inl x)) fun x => List.mem_append.mpr (.inr (.tail _ x)))
  · rw [List.mem_singleton.mp hq]
    exact (List.mem_append.mp hp).elim (o1 p) (o2 p)
  · intro u4 u5 u6 h' tk' F' N'
    refine hret u4 u5 u6 h' tk' F' fun p hp => N' p ?_
    rw [e2] at hp
    rcases List.mem_append.mp hp with hp | hp
    · exact .tail _ (.tail _ (List.mem_append.mpr (.inl hp)))
    · rcases List.mem_cons.mp hp with rfl | hp
      · exact .tail _ (.head _)
      · exact .tail _ (.tail _ (List.mem_append.mpr (.inr hp)))

theorem sample1_use {w : World} {mean : ExcName → Option Value} {mg mb : Str → Option Value} {news : Led} {g : Obj → Led} {v : Int} {vt : Tok} {x d : Addr} {k1 k2 k3 k4 k5 k6 t1 t2 t3 t4 t5 t6 : Tok} {fi le mo m8 s4 me : Int} {dp un : Nat} {gd : Option (List Code)} {cn : Str} {cs : Scope} {aa : Addr} {ccd : Value} {cl : List (Str × Addr)} {outer : List Env} {A₀ : Around} {base h₀ : Heap} {L : Addr} {m : Str → Option Value} {s : Shared} {Q E : Value → Shared → Prop}
    (B : Below A₀ base outer h₀) (F : Fr h₀ L s.heap m) (X : (hd.heap_39 w.params).In h₀) (N : News h₀ L s.heap (news)) (T : Top hd.view_39 (looseW hd.view_39 []) mean mg mb h₀) (hk : cs.kind = .function) (U : UpdF d (estOf w k1 k2 k3 k4 k5 k6 t1 t2 t3 t4 t5 t6 fi le mo m8 s4 me) news g) (hx : (x, instObj 66 d) ∈ news) (hxd : @LT.lt Nat _ d x) (hme : 1 ≤ me) (hd' : dp + 3 < recursionLimit) (hu : un + 24 < cLine)
    (hret : ∀ (u4 u5 u6 : Tok) (h' : Heap) (tk' : Nat), Fr h₀ L h' m → News h₀ L h' (g (estOf w k1 k2 k3 k4 k5 k6 t1 t2 t3 u4 u5 u6 fi le mo (m8 + (v - m8 / 8)) (s4 + max (v - m8 / 8) (m8 / 8 - v) - s4 / 4) (me + 1))) → Q .none { s with heap := h', toks := tk' }) :
    wpAny (model PySem.Challenge.rw_nu0117_01.row.prog w) (ktrTop dp un gd cn cs L aa ccd cl outer) (call (.ref 35) [.ref x, .int v vt]) Q E s := by
  obtain ⟨pre, post, e1, e2, o1, o2⟩ := U.split
  subst e1
  refine sample1_c (rest := pre ++ post) (k1 := k1) (k2 := k2) (k3 := k3) (k4 := k4) (k5 := k5) (k6 := k6) (t1 := t1) (t2 := t2) (t3 := t3) (t4 := t4) (t5 := t5) (t6 := t6) (fi := fi) (le := le) (mo := mo) (m8 := m8) (s4 := s4) (me := me) B F X (fun p hp => ?_) T hk hxd (fun p hp q hq => ?_) hme hd' hu ?_
  · rcases List.mem_cons.mp hp with rfl | hp
    · exact N _ hx
    · rcases List.mem_cons.mp hp with rfl | hp
      · exact N _ (List.mem_append.mpr (.inr (.head _)))
      · exact N p ((List.mem_append.mp hp).elim (fun x => List.mem_append.mpr (.inl x)) fun x => List.mem_append.mpr (.inr (.tail _ x)))
  · rw [List.mem_singleton.mp hq]
    exact (List.mem_append.mp hp).elim (o1 p) (o2 p)
  · intro u4 u5 u6 h' tk' F' N'
    refine hret u4 u5 u6 h' tk' F' fun p hp => N' p ?_
    rw [e2] at hp
    rcases List.mem_append.mp hp with hp | hp
    · exact .tail _ (.tail _ (List.mem_append.mpr (.inl hp)))
    · rcases List.mem_cons.mp hp with rfl | hp
      · exact .tail _ (.head _)
      · exact .tail _ (.tail _ (List.mem_append.mpr (.inr hp)))
end

/-! part 6 -/
section
set_option maxRecDepth 100000
set_option maxHeartbeats 8000000
theorem enumG {prog : Program} {w : World} {A : Around} {E : Value → Shared → Prop} {s : Shared} {env : Env} {h₀ : Heap} {elts : List Expr} {kk : Nat} {pos : Pos} {body : List Stmt} {Q : Flow → Shared → Prop}
    {l : Addr} {vs : List Value} {ns : List Int} {c : Nat} {m₀ : Str → Option Value} {news : Led} (J : Nat → (Str → Option Value) → Led → Prop)
    (hh : A.handled = none) (hl : (l, listOf vs.toArray c) ∈ news) (hi : IntsAre vs ns) (F : Fr h₀ env.locals s.heap m₀) (N : News h₀ env.locals s.heap news) (hj : J 0 m₀ news)
    (turn : ∀ (i : Nat) (k : Int) (T : Addr) (t t' : Tok) m₁ nx h tk own, ns[i]? = some k → IsTup h T #[.int (i : Int) t, .int k t'] → OwnOff own (nx.map (·.1)) → (l, listOf vs.toArray c) ∈ nx → J i m₁ nx → Fr h₀ env.locals h m₁ → News h₀ env.locals h (nx ++ own) →
      wpAny (model prog w) A (assign (.Tuple elts kk pos) env (.ref T)) (fun _ s₃ => wpAny (model prog w) A (execs body env)
        (InvPostG h₀ env.locals (fun m' nx => (l, listOf vs.toArray c) ∈ nx ∧ J (i + 1) m' nx) own { s with heap := h, toks := tk } Q) E s₃) E { s with heap := h, toks := tk })
    (done : ∀ m₁ nx h tk, (l, listOf vs.toArray c) ∈ nx → J ns.length m₁ nx → Fr h₀ env.locals h m₁ → News h₀ env.locals h nx → Q .next { s with heap := h, toks := tk }) :
    wpAny (model prog w) A (call (.type "enumerate") [.ref l]) (fun xv s₁ => wpAny (model prog w) A (pyIter xv) (fun it s₂ => TurnsAt prog w A h₀ env (.Tuple elts kk pos) body Q E it s₂) E s₁) E s := by
  have hol : s.heap.get? l = some (listOf vs.toArray c) := (N _ hl).1
  have hll : l < s.heap.objs.size := Heap.lt_size hol
  have hLL : env.locals < s.heap.objs.size := F.ns.lt
  have hlL : l ≠ env.locals := (N _ hl).2.1
  refine call_enumerate_1 hol fun h' he hit hsz hk => ?_
  refine wpAny_pyIter_enum he ?_
  have hei : s.heap.objs.size + 1 ≠ s.heap.objs.size := Nat.succ_ne_self _
  have hle : l ≠ s.heap.objs.size + 1 := Nat.ne_of_lt (Nat.lt_succ_of_lt hll)
  have hli : l ≠ s.heap.objs.size := Nat.ne_of_lt hll
  have n1 : h₀.get? (s.heap.objs.size + 1) = none := ktu_new F (Nat.le_succ _)
  have n2 : h₀.get? s.heap.objs.size = none := ktu_new F (Nat.le_refl _)
  have hls : h'.IsList l vs.toArray := ⟨_, hk _ _ hol, rfl, c, rfl⟩
  have hlen : vs.toArray.size = ns.length := by simp [hi.length]
  have F' : Fr h₀ env.locals h' m₀ := ⟨F.ns.keeps hk, fun b o e => hk b o (F.keep b o e), F.above⟩
  have N' : News h₀ env.locals h' news := fun p hp => ⟨hk _ _ (N p hp).1, (N p hp).2⟩
  refine ⟨s.heap.objs.size + 1, _, _, vs.toArray.size, _, _, _, m₀, news, fun i m nx => (l, listOf vs.toArray c) ∈ nx ∧ J i m nx, rfl, KTurns.ofWalksU (WalksT.enumerate hh (s.heap.objs.size + 1) s.heap.objs.size l hei hle hli vs.toArray).toU, ?_, ?_, ?_, ⟨⟨_, he⟩, hit, hls⟩, F', N', ⟨hl, hj⟩, ?_, ?_⟩
  · intro hm
    rcases List.mem_cons.mp hm with e | hm
    · exact Nat.ne_of_lt (Nat.lt_succ_of_lt hLL) e
    · rcases List.mem_cons.mp hm with e | hm
      · exact Nat.ne_of_lt hLL e
      · exact hlL (List.mem_singleton.mp hm).symm
  · intro b hb
    rcases List.mem_cons.mp hb with rfl | hb
    · exact n1
    · rw [List.mem_singleton.mp hb]; exact n2
  · intro p hp hm
    have hq : p.1 < s.heap.objs.size := Heap.lt_size (N p hp).1
    rcases List.mem_cons.mp hm with e | hm
    · exact Nat.ne_of_lt (Nat.lt_succ_of_lt hq) e
    · exact Nat.ne_of_lt hq (List.mem_singleton.mp hm)
  · rintro i v m₁ news₁ h₁ tk₁ own hin ⟨T, vals, rfl, ⟨t, x, hx, rfl⟩, hT⟩ ⟨hl₁, hJ⟩ hoff hown hget hmem ⟨⟨old, he₁⟩, hit₁, hls₁⟩ F₁ N₁
    have hin' : i < ns.length := hlen ▸ hin
    obtain ⟨t', hx'⟩ := hi.get i ns[i] (by simp [hin'])
    have hv : x = .int ns[i] t' := by
      have q : vs[i]? = some x := by simpa using hx
      rw [hx'] at q; exact (Option.some.inj q).symm
    subst hv
    obtain ⟨oi, hoi, _⟩ := id hit₁
    have me : (s.heap.objs.size + 1, _) ∈ own := hmem _ (.head _) n1 _ he₁
    have mi : (s.heap.objs.size, oi) ∈ own := hmem _ (.tail _ (.head _)) n2 _ hoi
    have hlo : h₁.get? l = some (listOf vs.toArray c) := (N₁ _ (List.mem_append.mpr (.inr hl₁))).1
    have hsep : OwnOff (own.filter fun p => decide (p.1 ∈ [s.heap.objs.size + 1, s.heap.objs.size])) (news₁.map (·.1)) := by
      intro p hp b hb e
      obtain ⟨q, hq, rfl⟩ := List.mem_map.mp hb
      have h1 : p.1 ∈ [s.heap.objs.size + 1, s.heap.objs.size] := by simpa using (List.mem_filter.mp hp).2
      exact hoff q hq (e ▸ h1)
    have N₂ : News h₀ env.locals h₁ (news₁ ++ own.filter fun p => decide (p.1 ∈ [s.heap.objs.size + 1, s.heap.objs.size])) := fun p hp =>
      N₁ p ((List.mem_append.mp hp).elim (fun h => List.mem_append.mpr (.inr h)) fun h => List.mem_append.mpr (.inl (List.mem_filter.mp h).1))
    refine wpAny_mono (turn i ns[i] T t t' m₁ news₁ h₁ tk₁ _ (by simp [hin']) hT hsep hl₁ hJ F₁ N₂) (fun _ s₃ h₃ => wpAny_mono h₃ (fun f s₂ p => ?_) fun _ _ e => e) fun _ _ e => e
    have fin : InvEndG h₀ env.locals (fun m' nx => (l, listOf vs.toArray c) ∈ nx ∧ J (i + 1) m' nx) (own.filter fun p => decide (p.1 ∈ [s.heap.objs.size + 1, s.heap.objs.size])) { s with heap := h₁, toks := tk₁ } s₂ →
        LoopStepU h₀ env.locals [s.heap.objs.size + 1, s.heap.objs.size] own (fun m nx => (l, listOf vs.toArray c) ∈ nx ∧ J (i + 1) m nx) { s with heap := h₁, toks := tk₁ } .next s₂ := by
      rintro ⟨h', tk, m', news', nx, e, F', N', hn, ho, ha, hm⟩
      refine ⟨rfl, h', tk, m', nx, e, F', fun p hp => ?_, fun p hp hq => ?_, hm⟩
      · rcases List.mem_append.mp hp with h | h
        · by_cases hI : p.1 ∈ [s.heap.objs.size + 1, s.heap.objs.size]
          · exact N' p (ho p (List.mem_filter.mpr ⟨h, by simpa using hI⟩))
          · have h1 : p.1 = l := by
              rcases List.mem_cons.mp (hown p h) with h2 | h2
              · exact absurd (h2 ▸ .head _) hI
              · rcases List.mem_cons.mp h2 with h2 | h2
                · exact absurd (h2 ▸ .tail _ (.head _)) hI
                · exact List.mem_singleton.mp h2
            have h2 : h₁.get? p.1 = some p.2 := hget p h
            rw [h1, hlo] at h2
            have h3 : p = (l, listOf vs.toArray c) := Prod.ext h1 (Option.some.inj h2).symm
            rw [h3]
            exact N' _ (hn _ hm.1)
        · exact N' p (hn p h)
      · have h1 : p.1 ∈ nx.map (·.1) := List.mem_map.mpr ⟨p, hp, rfl⟩
        rcases List.mem_cons.mp hq with e | hq
        · exact ha _ (List.mem_filter.mpr ⟨me, by simp⟩) _ h1 e.symm
        · exact ha _ (List.mem_filter.mpr ⟨mi, by simp⟩) _ h1 (List.mem_singleton.mp hq).symm
    cases f with
    | ret v => exact .ret p
    | brk => exact .brk p
    | next => exact .next (fin p)
    | cont => exact .cont (fin p)
  · rintro h' tk m' news' F' N' _ ⟨hl', hJ⟩
    rw [hlen] at hJ
    exact done m' news' h' tk hl' hJ F' N'
theorem divmod_L {prog : Program} {w : World} {A : Around} {E : Value → Shared → Prop} {s : Shared} {a b : Int} {t u : Tok} {Q : Value → Shared → Prop} {h₀ : Heap} {L : Addr} {m : Str → Option Value} {news : Led} (hb : 0 < b) (hb2 : b < 1000) (F : Fr h₀ L s.heap m) (N : News h₀ L s.heap news)
    (h : ∀ (D : Addr) (t1 t2 : Tok) (h' : Heap) (tk' : Nat), Fr h₀ L h' m → News h₀ L h' ((D, ({ cls := .type "tuple", data := .seq #[.int (a / b) t1, .int (a % b) t2] } : Obj)) :: news) → AllLt D news → Q (.ref D) { s with heap := h', toks := tk' }) :
    wpAny (model prog w) A (call (.builtin "divmod") [.int a t, .int b u]) Q E s := by
  refine divmod_N F N (by omega) (fun h' F' N' => ?_) (Or.inl (PyProof.noPylong_small (by omega)))
  rw [Int.fdiv_eq_ediv_of_nonneg _ (by omega), Int.fmod_eq_emod_of_nonneg _ (by omega)] at N'
  exact h _ _ _ h' _ F' N' (allLt_of fun p hp => Heap.lt_size (N p hp).1)
end

/-! part 7 -/
section
set_option maxRecDepth 100000
set_option maxHeartbeats 8000000
theorem timeout0_use {w : World} {mean : ExcName → Option Value} {mg mb : Str → Option Value} {news : Led} {x d : Addr} {k1 k2 k3 k4 k5 k6 t1 t2 t3 t4 t5 t6 : Tok} {fi le mo m8 s4 me : Int} {dp un : Nat} {gd : Option (List Code)} {cn : Str} {cs : Scope} {aa : Addr} {ccd : Value} {cl : List (Str × Addr)} {outer : List Env} {A₀ : Around} {base h₀ : Heap} {L : Addr} {m : Str → Option Value} {s : Shared} {Q E : Value → Shared → Prop}
    (B : Below A₀ base outer h₀) (F : Fr h₀ L s.heap m) (X : (hd.heap_39 w.params).In h₀) (N : News h₀ L s.heap (news)) (T : Top hd.view_39 (looseW hd.view_39 []) mean mg mb h₀) (hk : cs.kind = .function) (hx : (x, instObj 66 d) ∈ news) (hdx : (d, estOf w k1 k2 k3 k4 k5 k6 t1 t2 t3 t4 t5 t6 fi le mo m8 s4 me) ∈ news) (hle : le ≤ mo) (hme : me = 0) (hd' : dp + 4 < recursionLimit) (hu : un + 32 < cLine)
    (hret : ∀ (t : Tok) (h' : Heap) (tk' : Nat), Fr h₀ L h' m → News h₀ L h' news → Q (.int (min (max fi le) mo) t) { s with heap := h', toks := tk' }) :
    wpAny (model PySem.Challenge.rw_nu0117_01.row.prog w) (ktrTop dp un gd cn cs L aa ccd cl outer) (call (.ref 56) [.ref x]) Q E s := timeout_use B F X N T hk hx hdx hle hd' hu fi (fun _ => rfl) (fun h => absurd hme h) hret

theorem timeout1_use {w : World} {mean : ExcName → Option Value} {mg mb : Str → Option Value} {news : Led} {x d : Addr} {k1 k2 k3 k4 k5 k6 t1 t2 t3 t4 t5 t6 : Tok} {fi le mo m8 s4 me : Int} {dp un : Nat} {gd : Option (List Code)} {cn : Str} {cs : Scope} {aa : Addr} {ccd : Value} {cl : List (Str × Addr)} {outer : List Env} {A₀ : Around} {base h₀ : Heap} {L : Addr} {m : Str → Option Value} {s : Shared} {Q E : Value → Shared → Prop}
    (B : Below A₀ base outer h₀) (F : Fr h₀ L s.heap m) (X : (hd.heap_39 w.params).In h₀) (N : News h₀ L s.heap (news)) (T : Top hd.view_39 (looseW hd.view_39 []) mean mg mb h₀) (hk : cs.kind = .function) (hx : (x, instObj 66 d) ∈ news) (hdx : (d, estOf w k1 k2 k3 k4 k5 k6 t1 t2 t3 t4 t5 t6 fi le mo m8 s4 me) ∈ news) (hle : le ≤ mo) (hme : 1 ≤ me) (hd' : dp + 4 < recursionLimit) (hu : un + 32 < cLine)
    (hret : ∀ (t : Tok) (h' : Heap) (tk' : Nat), Fr h₀ L h' m → News h₀ L h' news → Q (.int (min (max (m8 / 8 + s4) le) mo) t) { s with heap := h', toks := tk' }) :
    wpAny (model PySem.Challenge.rw_nu0117_01.row.prog w) (ktrTop dp un gd cn cs L aa ccd cl outer) (call (.ref 56) [.ref x]) Q E s := timeout_use B F X N T hk hx hdx hle hd' hu (m8 / 8 + s4) (fun h => by omega) (fun _ => rfl) hret
local macro_rules | `(tactic| walk_at "call ref") => `(tactic| (k_here; (try dsimp only [List.nil_append, List.cons_append, List.append_nil]); (with_reducible show wpAny _ _ (call (Value.ref _) [Value.ref _]) _ _ _); k_dflt (refine' timeout0_use ?k1 ?k2 ?k3 ?k4 ?k5 ?kK ?kx ?ky ?kl ?km ?kd ?ku ?_; (case k1 => k_asm); (case k2 => k_asm); (case k3 => k_asm); (case k4 => k_asm); (case k5 => k_asm); (case kK => first | exact rfl | assumption); (case kx => k_mem); (case ky => k_mem); (case kl => omega); (case km => omega); (case kd => ktr_room); (case ku => ktr_units); k_whole); intro t' h' tk' F' N'; (try dsimp only at N'); (try k_sweep); (try dsimp only); (try k_fold)))
local macro_rules | `(tactic| walk_at "call ref") => `(tactic| (k_here; (try dsimp only [List.nil_append, List.cons_append, List.append_nil]); (with_reducible show wpAny _ _ (call (Value.ref _) [Value.ref _]) _ _ _); k_dflt (refine' timeout1_use ?k1 ?k2 ?k3 ?k4 ?k5 ?kK ?kx ?ky ?kl ?km ?kd ?ku ?_; (case k1 => k_asm); (case k2 => k_asm); (case k3 => k_asm); (case k4 => k_asm); (case k5 => k_asm); (case kK => first | exact rfl | assumption); (case kx => k_mem); (case ky => k_mem); (case kl => omega); (case km => omega); (case kd => ktr_room); (case ku => ktr_units); k_whole); intro t' h' tk' F' N'; (try dsimp only at N'); (try k_sweep); (try dsimp only); (try k_fold)))
local macro_rules | `(tactic| walk_at "call ref") => `(tactic| (k_here; (try dsimp only [List.nil_append, List.cons_append, List.append_nil]); (with_reducible show wpAny _ _ (call (Value.ref _) [Value.ref _]) _ _ _); k_dflt (refine' mean_use ?k1 ?k2 ?k3 ?k4 ?k5 ?kK ?kx ?ky ?kd ?ku ?_; (case k1 => k_asm); (case k2 => k_asm); (case k3 => k_asm); (case k4 => k_asm); (case k5 => k_asm); (case kK => first | exact rfl | assumption); (case kx => k_mem); (case ky => k_mem); (case kd => ktr_room); (case ku => ktr_units); k_whole); intro t' h' tk' F' N'; (try dsimp only at N'); (try k_sweep); (try dsimp only); (try k_fold)))
local macro_rules | `(tactic| walk_at "call ref") => `(tactic| (k_here; (try dsimp only [List.nil_append, List.cons_append, List.append_nil]); (with_reducible show wpAny _ _ (call (Value.ref _) [Value.int _ _, Value.int _ _, Value.int _ _]) _ _ _); k_dflt (refine' cut_use ?k1 ?k2 ?k3 ?k4 ?k5 ?kK ?kl ?kd ?ku ?_; (case k1 => k_asm); (case k2 => k_asm); (case k3 => k_asm); (case k4 => k_asm); (case k5 => k_asm); (case kK => first | exact rfl | assumption); (case kl => omega); (case kd => ktr_room); (case ku => ktr_units); k_whole); intro t' h' tk' F' N'; (try dsimp only at N'); (try k_sweep); (try dsimp only); (try k_fold)))
local macro_rules | `(tactic| walk_at "call ref") => `(tactic| (k_here; (try dsimp only [List.nil_append, List.cons_append, List.append_nil]); (with_reducible show wpAny _ _ (call (Value.ref _) [Value.ref _, Value.int _ _]) _ _ _); k_dflt (refine' sample0_use ?k1 ?k2 ?k3 ?k4 ?k5 ?kK ?kU ?kx ?kl ?km ?kd ?ku ?_; (case k1 => k_asm); (case k2 => k_asm); (case k3 => k_asm); (case k4 => k_asm); (case k5 => k_asm); (case kK => first | exact rfl | assumption); (case kx => k_mem); (case kU => k_updF); (case kl => omega); (case km => omega); (case kd => ktr_room); (case ku => ktr_units); k_whole); intro u4' u5' u6' h' tk' F' N'; (try dsimp only at N'); (try k_sweep); (try dsimp only); (try k_fold)))
local macro_rules | `(tactic| walk_at "call ref") => `(tactic| (k_here; (try dsimp only [List.nil_append, List.cons_append, List.append_nil]); (with_reducible show wpAny _ _ (call (Value.ref _) [Value.ref _, Value.int _ _]) _ _ _); k_dflt (refine' sample1_use ?k1 ?k2 ?k3 ?k4 ?k5 ?kK ?kU ?kx ?kl ?km ?kd ?ku ?_; (case k1 => k_asm); (case k2 => k_asm); (case k3 => k_asm); (case k4 => k_asm); (case k5 => k_asm); (case kK => first | exact rfl | assumption); (case kx => k_mem); (case kU => k_updF); (case kl => omega); (case km => omega); (case kd => ktr_room); (case ku => ktr_units); k_whole); intro u4' u5' u6' h' tk' F' N'; (try dsimp only at N'); (try k_sweep); (try dsimp only); (try k_fold)))

local macro_rules | `(tactic| walk_at "exec For Tuple Call cons nil") => `(tactic| (k_here; (rename Fr _ _ _ _ => lF'); (with_unfolding_all refine' For_turns lF' ?_; k_whole)))
local macro_rules | `(tactic| walk_at "call builtin:divmod") => `(tactic| (k_here; (with_reducible show wpAny _ _ (call (Value.builtin _) [Value.int _ _, Value.int _ _]) _ _ _); (refine divmod_L (by decide) (by decide) (by k_asm) (by k_asm) ?_); intro D' t1' t2' h' tk' F' N' l1'; (try simp only [AllLt, and_true] at l1'); (try k_sweep); (try dsimp only); (try k_fold)))
local macro_rules | `(tactic| walk_at "call type:enumerate") => `(tactic| (refine hold ?_))

theorem map7 {m : Str → Option Value} {x1 x2 x3 x4 x5 x6 x7 : Str} {v1 v2 v3 v4 v5 v6 v7 : Value} (h1 : m x1 = some v1) (h2 : m x2 = some v2) (h3 : m x3 = some v3) (h4 : m x4 = some v4) (h5 : m x5 = some v5) (h6 : m x6 = some v6) (h7 : m x7 = some v7) :
    m = fun y => if y = x1 then some v1 else if y = x2 then some v2 else if y = x3 then some v3 else if y = x4 then some v4 else if y = x5 then some v5 else if y = x6 then some v6 else if y = x7 then some v7 else m y := by
  funext y
  repeat (first | rfl | (split; (rename_i e; rw [e]; assumption)))

def FolJ (w : World) (x d Tm Bd : Addr) (k1 k2 k3 k4 k5 k6 t1 t2 t3 : Tok) (fi le mo : Int) (oT oB : Obj) (rest : Led) (i : Nat) (m : Str → Option Value) (nx : Led) : Prop :=
  ∃ (u4 u5 u6 : Tok) (wh ei sp qu : Int) (a1 a2 b1 b2 b3 b4 : Tok),
    nx = (x, instObj 66 d) :: (d, estOf w k1 k2 k3 k4 k5 k6 t1 t2 t3 u4 u5 u6 fi le mo (8 * wh + ei) (4 * sp + qu) (i : Int)) :: (Tm, oT) :: (Bd, oB) :: rest ∧
    0 ≤ ei ∧ ei < 8 ∧ 0 ≤ qu ∧ qu < 4 ∧
    m (Str.ofString "told") = some (.ref x) ∧ m (Str.ofString "least") = some (.int le a1) ∧ m (Str.ofString "most") = some (.int mo a2) ∧
    m (Str.ofString "whole") = some (.int wh b1) ∧ m (Str.ofString "eighths") = some (.int ei b2) ∧ m (Str.ofString "spread") = some (.int sp b3) ∧ m (Str.ofString "quarters") = some (.int qu b4)

theorem fol_end {w : World} {x d Tm Bd : Addr} {k1 k2 k3 k4 k5 k6 t1 t2 t3 u4 u5 u6 a1 a2 b1 b2 b3 b4 : Tok} {fi le mo y8 y4 ye wh ei sp qu : Int} {oT oB : Obj} {rest own news' : Led} {i : Nat} {h₀ h' : Heap} {L : Addr} {m' : Str → Option Value} {s₁ : Shared} {tk : Nat}
    (F : Fr h₀ L h' m') (N : News h₀ L h' news') (hO : OwnOff own (x :: d :: Tm :: Bd :: rest.map (·.1)))
    (hx : (x, instObj 66 d) ∈ news') (hdd : (d, estOf w k1 k2 k3 k4 k5 k6 t1 t2 t3 u4 u5 u6 fi le mo y8 y4 ye) ∈ news') (hT : (Tm, oT) ∈ news') (hB : (Bd, oB) ∈ news') (hr : ∀ p ∈ rest ++ own, p ∈ news')
    (hm1 : m' (Str.ofString "told") = some (.ref x)) (hm2 : m' (Str.ofString "least") = some (.int le a1)) (hm3 : m' (Str.ofString "most") = some (.int mo a2))
    (hm4 : m' (Str.ofString "whole") = some (.int wh b1)) (hm5 : m' (Str.ofString "eighths") = some (.int ei b2)) (hm6 : m' (Str.ofString "spread") = some (.int sp b3)) (hm7 : m' (Str.ofString "quarters") = some (.int qu b4))
    (e1 : y8 = 8 * wh + ei) (e2 : y4 = 4 * sp + qu) (e3 : ye = (i : Int) + 1) (h1 : 0 ≤ ei) (h2 : ei < 8) (h3 : 0 ≤ qu) (h4 : qu < 4) :
    InvEndG h₀ L (fun m' nx => (Tm, oT) ∈ nx ∧ FolJ w x d Tm Bd k1 k2 k3 k4 k5 k6 t1 t2 t3 fi le mo oT oB rest (i + 1) m' nx) own s₁ { s₁ with heap := h', toks := tk } := by
  subst e1 e2
  have e3' : ye = ((i + 1 : Nat) : Int) := by omega
  subst e3'
  refine InvEndG.intro (nx := (x, instObj 66 d) :: (d, estOf w k1 k2 k3 k4 k5 k6 t1 t2 t3 u4 u5 u6 fi le mo (8 * wh + ei) (4 * sp + qu) ((i + 1 : Nat) : Int)) :: (Tm, oT) :: (Bd, oB) :: rest) F N
    ⟨.tail _ (.tail _ (.head _)), u4, u5, u6, wh, ei, sp, qu, a1, a2, b1, b2, b3, b4, rfl, h1, h2, h3, h4, hm1, hm2, hm3, hm4, hm5, hm6, hm7⟩ hO ?_ (fun p hp => hr p (List.mem_append.mpr (.inr hp)))
  intro p hp
  rcases List.mem_cons.mp hp with rfl | hp
  · exact hx
  · rcases List.mem_cons.mp hp with rfl | hp
    · exact hdd
    · rcases List.mem_cons.mp hp with rfl | hp
      · exact hT
      · rcases List.mem_cons.mp hp with rfl | hp
        · exact hB
        · exact hr p (List.mem_append.mpr (.inl hp))

theorem followed_c {w : World} {mean : ExcName → Option Value} {mg mb : Str → Option Value} {rest : Led} {x d Tm Bd : Addr} {k1 k2 k3 k4 k5 k6 t1 t2 t3 t4 t5 t6 a0 a1 a2 : Tok} {fi le mo : Int} {vs : List Value} {ns : List Int} {c nb : Nat} {dp un : Nat} {gd : Option (List Code)} {cn : Str} {cs : Scope} {aa : Addr} {ccd : Value} {cl : List (Str × Addr)} {outer : List Env} {A₀ : Around} {base h₀ : Heap} {L : Addr} {m : Str → Option Value} {s : Shared} {Q E : Value → Shared → Prop}
    (B : Below A₀ base outer h₀) (F : Fr h₀ L s.heap m) (X : (hd.heap_39 w.params).In h₀) (N : News h₀ L s.heap ((x, instObj 66 d) :: (d, estOf w k1 k2 k3 k4 k5 k6 t1 t2 t3 t4 t5 t6 fi le mo 0 0 0) :: (Tm, listOf vs.toArray c) :: (Bd, { cls := .type "tuple", data := .seq #[.int fi a0, .int le a1, .int mo a2] nb }) :: rest)) (T : Top hd.view_39 (looseW hd.view_39 []) mean mg mb h₀) (hk : cs.kind = .function) (hxd : @LT.lt Nat _ d x) (hTd : @LT.lt Nat _ d Tm) (hBd : @LT.lt Nat _ Bd d) (hoff : OwnOff rest [d]) (hi : IntsAre vs ns) (hle : le ≤ mo) (hd' : dp + 6 < recursionLimit) (hu : un + 48 < cLine)
    (hret : ∀ (o' : Obj) (h' : Heap) (tk' : Nat), Fr h₀ L h' m → News h₀ L h' ((x, instObj 66 d) :: (d, o') :: (Tm, listOf vs.toArray c) :: (Bd, { cls := .type "tuple", data := .seq #[.int fi a0, .int le a1, .int mo a2] nb }) :: rest) → Q (.bool true) { s with heap := h', toks := tk' }) :
    wpAny (model PySem.Challenge.rw_nu0117_01.row.prog w) (ktrTop dp un gd cn cs L aa ccd cl outer) (call (.ref 112) [.ref x, .ref Bd, .ref Tm]) Q E s := by
  refine wpAny_call ?_
  k_dflt cell_enter
  k_steps
  · exact absurd rfl (by assumption)
  · unfold Hold
    rename Fr _ _ _ _ => lF
    rename News _ _ _ _ => lN
    with_unfolding_all refine' enumG (FolJ w x d Tm Bd k1 k2 k3 k4 k5 k6 t1 t2 t3 fi le mo (listOf vs.toArray c) ({ cls := .type "tuple", data := .seq #[.int fi a0, .int le a1, .int mo a2] nb }) rest) (by rfl) (.tail _ (.tail _ (.head _))) hi lF (fun p hp => lN p (.tail _ hp)) ?_ ?_ ?_
    · exact ⟨_, _, _, 0, 0, 0, 0, _, _, _, _, _, _, rfl, by decide, by decide, by decide, by decide, rfl, rfl, rfl, rfl, rfl, rfl, rfl⟩
    · intro i k T t t' m₁ nx h tk own hki hT9 hoff1 hl9 hJ F₁ N₁
      obtain ⟨u4, u5, u6, wh, ei, sp, qu, a1', a2', b1, b2, b3, b4, rfl, he0, he8, hq0, hq4, hm1, hm2, hm3, hm4, hm5, hm6, hm7⟩ := hJ
      rw [map7 hm1 hm2 hm3 hm4 hm5 hm6 hm7] at F₁
      simp only [List.cons_append] at N₁
      have hO : OwnOff (rest ++ own) [d] := off_app hoff hoff1 (.tail _ (.head _))
      clear lF lN
      with_reducible show wpAny _ _ _ _ _ _
      k_fold
      k_steps
      all_goals first
        | (exfalso; omega)
        | (refine fol_end (w := w) (k1 := k1) (k2 := k2) (k3 := k3) (k4 := k4) (k5 := k5) (k6 := k6) (t1 := t1) (t2 := t2) (t3 := t3) (fi := fi) (le := le) (mo := mo) (Tm := Tm) (Bd := Bd) (rest := rest) (by k_asm) (by k_asm) hoff1 (by k_memK) (by k_memK) (by k_memK) (by k_memK) ?_ rfl rfl rfl rfl rfl rfl rfl ?_ ?_ ?_ ?_ ?_ ?_ ?_
           all_goals first | omega | (intro p hp; repeat (first | exact hp | refine List.Mem.tail _ ?_)))
    · intro m₁ nx h tk hl9 hJ F₁ N₁
      obtain ⟨u4, u5, u6, wh, ei, sp, qu, a1', a2', b1, b2, b3, b4, rfl, he0, he8, hq0, hq4, hm1, hm2, hm3, hm4, hm5, hm6, hm7⟩ := hJ
      clear lF lN
      dsimp only
      k_steps
      exact hret _ _ _ (by k_asm) (by k_asm)

theorem followed_use {w : World} {mean : ExcName → Option Value} {mg mb : Str → Option Value} {news : Led} {g : Obj → Led} {x d Tm Bd : Addr} {k1 k2 k3 k4 k5 k6 t1 t2 t3 t4 t5 t6 a0 a1 a2 : Tok} {fi le mo : Int} {vs : List Value} {ns : List Int} {c nb : Nat} {dp un : Nat} {gd : Option (List Code)} {cn : Str} {cs : Scope} {aa : Addr} {ccd : Value} {cl : List (Str × Addr)} {outer : List Env} {A₀ : Around} {base h₀ : Heap} {L : Addr} {m : Str → Option Value} {s : Shared} {Q E : Value → Shared → Prop}
    (B : Below A₀ base outer h₀) (F : Fr h₀ L s.heap m) (X : (hd.heap_39 w.params).In h₀) (N : News h₀ L s.heap (news)) (T : Top hd.view_39 (looseW hd.view_39 []) mean mg mb h₀) (hk : cs.kind = .function) (U : UpdF d (estOf w k1 k2 k3 k4 k5 k6 t1 t2 t3 t4 t5 t6 fi le mo 0 0 0) news g) (hx : (x, instObj 66 d) ∈ news) (hT : (Tm, listOf vs.toArray c) ∈ news) (hB : (Bd, ({ cls := .type "tuple", data := .seq #[.int fi a0, .int le a1, .int mo a2] nb } : Obj)) ∈ news)
    (hxd : @LT.lt Nat _ d x) (hTd : @LT.lt Nat _ d Tm) (hBd : @LT.lt Nat _ Bd d) (hi : IntsAre vs ns) (hle : le ≤ mo) (hd' : dp + 6 < recursionLimit) (hu : un + 48 < cLine)
    (hret : ∀ (o' : Obj) (h' : Heap) (tk' : Nat), Fr h₀ L h' m → News h₀ L h' (g o') → Q (.bool true) { s with heap := h', toks := tk' }) :
    wpAny (model PySem.Challenge.rw_nu0117_01.row.prog w) (ktrTop dp un gd cn cs L aa ccd cl outer) (call (.ref 112) [.ref x, .ref Bd, .ref Tm]) Q E s := by
  obtain ⟨pre, post, e1, e2, o1, o2⟩ := U.split
  subst e1
  refine followed_c (rest := pre ++ post) (k1 := k1) (k2 := k2) (k3 := k3) (k4 := k4) (k5 := k5) (k6 := k6) (t1 := t1) (t2 := t2) (t3 := t3) (t4 := t4) (t5 := t5) (t6 := t6) (a0 := a0) (a1 := a1) (a2 := a2) (fi := fi) (le := le) (mo := mo) (vs := vs) (ns := ns) (c := c) (nb := nb) (d := d) B F X (fun p hp => ?_) T hk hxd hTd hBd (fun p hp q hq => ?_) hi hle hd' hu ?_
  · rcases List.mem_cons.mp hp with rfl | hp
    · exact N _ hx
    · rcases List.mem_cons.mp hp with rfl | hp
      · exact N _ (List.mem_append.mpr (.inr (.head _)))
      · rcases List.mem_cons.mp hp with rfl | hp
        · exact N _ hT
        · rcases List.mem_cons.mp hp with rfl | hp
          · exact N _ hB
          · exact N p ((List.mem_append.mp hp).elim (fun x => List.mem_append.mpr (.inl x)) fun x => List.mem_append.mpr (.inr (.tail _ x)))
  · rw [List.mem_singleton.mp hq]
    exact (List.mem_append.mp hp).elim (o1 p) (o2 p)
  · intro o' h' tk' F' N'
    refine hret o' h' tk' F' fun p hp => N' p ?_
    rw [e2] at hp
    rcases List.mem_append.mp hp with hp | hp
    · exact .tail _ (.tail _ (.tail _ (.tail _ (List.mem_append.mpr (.inl hp)))))
    · rcases List.mem_cons.mp hp with rfl | hp
      · exact .tail _ (.head _)
      · exact .tail _ (.tail _ (.tail _ (.tail _ (List.mem_append.mpr (.inr hp)))))
end

/-! part 8 -/
section
set_option maxRecDepth 100000
set_option maxHeartbeats 8000000
theorem menu_bound {r : Int} {ns : List Int} (h : r ∈ ns) (hb : ∀ v ∈ ns, 0 ≤ v ∧ v ≤ 1000000) : 0 ≤ r ∧ r ≤ 1000000 := hb r h
theorem ownOff_lt {S : Addr} {news : Led} (h : ∀ p ∈ news, p.1 < S) : OwnOff news [S] := fun p hp b hb => by
  rw [List.mem_singleton.mp hb]
  exact Nat.ne_of_lt (h p hp)
theorem ownOff_tail {e : Addr × Obj} {r : Led} {adr : List Addr} (h : OwnOff (e :: r) adr) : OwnOff r adr := fun p hp => h p (.tail _ hp)

local macro_rules | `(tactic| walk_at "call ref") => `(tactic| (k_here; (try dsimp only [List.nil_append, List.cons_append, List.append_nil]); (with_reducible show wpAny _ _ (call (Value.ref _) [Value.ref _]) _ _ _); k_dflt (refine' timeout0_use ?k1 ?k2 ?k3 ?k4 ?k5 ?kK ?kx ?ky ?kl ?km ?kd ?ku ?_; (case k1 => k_asm); (case k2 => k_asm); (case k3 => k_asm); (case k4 => k_asm); (case k5 => k_asm); (case kK => first | exact rfl | assumption); (case kx => k_mem); (case ky => k_mem); (case kl => omega); (case km => omega); (case kd => ktr_room); (case ku => ktr_units); k_whole); intro t' h' tk' F' N'; (try dsimp only at N'); (try k_sweep); (try dsimp only); (try k_fold)))
local macro_rules | `(tactic| walk_at "call ref") => `(tactic| (k_here; (try dsimp only [List.nil_append, List.cons_append, List.append_nil]); (with_reducible show wpAny _ _ (call (Value.ref _) [Value.ref _]) _ _ _); k_dflt (refine' timeout1_use ?k1 ?k2 ?k3 ?k4 ?k5 ?kK ?kx ?ky ?kl ?km ?kd ?ku ?_; (case k1 => k_asm); (case k2 => k_asm); (case k3 => k_asm); (case k4 => k_asm); (case k5 => k_asm); (case kK => first | exact rfl | assumption); (case kx => k_mem); (case ky => k_mem); (case kl => omega); (case km => omega); (case kd => ktr_room); (case ku => ktr_units); k_whole); intro t' h' tk' F' N'; (try dsimp only at N'); (try k_sweep); (try dsimp only); (try k_fold)))
local macro_rules | `(tactic| walk_at "call ref") => `(tactic| (k_here; (try dsimp only [List.nil_append, List.cons_append, List.append_nil]); (with_reducible show wpAny _ _ (call (Value.ref _) [Value.ref _]) _ _ _); k_dflt (refine' mean_use ?k1 ?k2 ?k3 ?k4 ?k5 ?kK ?kx ?ky ?kd ?ku ?_; (case k1 => k_asm); (case k2 => k_asm); (case k3 => k_asm); (case k4 => k_asm); (case k5 => k_asm); (case kK => first | exact rfl | assumption); (case kx => k_mem); (case ky => k_mem); (case kd => ktr_room); (case ku => ktr_units); k_whole); intro t' h' tk' F' N'; (try dsimp only at N'); (try k_sweep); (try dsimp only); (try k_fold)))
local macro_rules | `(tactic| walk_at "call ref") => `(tactic| (k_here; (try dsimp only [List.nil_append, List.cons_append, List.append_nil]); (with_reducible show wpAny _ _ (call (Value.ref _) [Value.ref _]) _ _ _); k_dflt (refine' times_use ?k1 ?k2 ?k3 ?k4 ?k5 ?kK ?kU ?p3 ?p4 ?p5 ?kd ?ku ?_; (case k1 => k_asm); (case k2 => k_asm); (case k3 => k_asm); (case k4 => k_asm); (case k5 => k_asm); (case kK => first | exact rfl | assumption); (case kU => k_updF); (case p3 => omega); (case p4 => omega); (case p5 => omega); (case kd => ktr_room); (case ku => ktr_units); k_whole); intro D' vs' ns' c' a' b' ta' tb' h' tk' r1' r2' r3' r4' r5' r6' r7' F' N'; (try simp only [AllLt, and_true] at r4'); (try dsimp only at N'); (try k_sweep); (try dsimp only); (try k_fold)))
local macro_rules | `(tactic| walk_at "call ref") => `(tactic| (k_here; (try dsimp only [List.nil_append, List.cons_append, List.append_nil]); (with_reducible show wpAny _ _ (call (Value.ref _) [Value.ref _, Value.int _ _]) _ _ _); k_dflt (refine' pool_c ?k1 ?k2 ?k3 ?k4 ?k5 ?kK ?kl ?ki ?kn ?km ?ko ?kd ?ku ?_; (case k1 => k_asm); (case k2 => k_asm); (case k3 => k_asm); (case k4 => k_asm); (case k5 => k_asm); (case kK => first | exact rfl | assumption); (case kl => k_asm); (case ki => k_asm); (case kn => omega); (case km => omega); (case ko => omega); (case kd => ktr_room); (case ku => ktr_units); k_whole); intro a' b' ta' tb' S' n' h' tk' r1' r2' r3' l1' F' N'; (have hO' := ownOff_lt l1'); (try k_lt l1'); (try dsimp only at N'); (try k_sweep); (try dsimp only); (try k_fold)))
local macro_rules | `(tactic| walk_at "call ref") => `(tactic| (k_here; (try dsimp only [List.nil_append, List.cons_append, List.append_nil]); (with_reducible show wpAny _ _ (call (Value.ref _) [Value.ref _, Value.int _ _]) _ _ _); k_dflt (refine' take_use ?k1 ?k2 ?k3 ?k4 ?k5 ?kK ?kU ?p1 ?p2 ?p3 ?p4 ?p5 ?kd ?ku ?_; (case k1 => k_asm); (case k2 => k_asm); (case k3 => k_asm); (case k4 => k_asm); (case k5 => k_asm); (case kK => first | exact rfl | assumption); (case kU => k_updF); (case p1 => omega); (case p2 => omega); (case p3 => omega); (case p4 => omega); (case p5 => omega); (case kd => ktr_room); (case ku => ktr_units); k_whole); intro r' a' b' t' ta' tb' h' tk' r1' r2' r3' r4' r5' F' N'; (try dsimp only at N'); (try k_sweep); (try dsimp only); (try k_fold)))
local macro_rules | `(tactic| walk_at "call ref") => `(tactic| (k_here; (try dsimp only [List.nil_append, List.cons_append, List.append_nil]); (with_reducible show wpAny _ _ (call (Value.ref _) [Value.ref _, Value.int _ _]) _ _ _); k_dflt (refine' sample0_use ?k1 ?k2 ?k3 ?k4 ?k5 ?kK ?kU ?kx ?kl ?km ?kd ?ku ?_; (case k1 => k_asm); (case k2 => k_asm); (case k3 => k_asm); (case k4 => k_asm); (case k5 => k_asm); (case kK => first | exact rfl | assumption); (case kx => k_mem); (case kU => k_updF); (case kl => omega); (case km => omega); (case kd => ktr_room); (case ku => ktr_units); k_whole); intro u4' u5' u6' h' tk' F' N'; (try dsimp only at N'); (try k_sweep); (try dsimp only); (try k_fold)))
local macro_rules | `(tactic| walk_at "call ref") => `(tactic| (k_here; (try dsimp only [List.nil_append, List.cons_append, List.append_nil]); (with_reducible show wpAny _ _ (call (Value.ref _) [Value.ref _, Value.int _ _]) _ _ _); k_dflt (refine' sample1_use ?k1 ?k2 ?k3 ?k4 ?k5 ?kK ?kU ?kx ?kl ?km ?kd ?ku ?_; (case k1 => k_asm); (case k2 => k_asm); (case k3 => k_asm); (case k4 => k_asm); (case k5 => k_asm); (case kK => first | exact rfl | assumption); (case kx => k_mem); (case kU => k_updF); (case kl => omega); (case km => omega); (case kd => ktr_room); (case ku => ktr_units); k_whole); intro u4' u5' u6' h' tk' F' N'; (try dsimp only at N'); (try k_sweep); (try dsimp only); (try k_fold)))
local macro_rules | `(tactic| walk_at "call ref") => `(tactic| (k_here; (try dsimp only [List.nil_append, List.cons_append, List.append_nil]); (with_reducible show wpAny _ _ (call (Value.ref _) [Value.ref _, Value.ref _]) _ _ _); k_dflt (refine' one_use ?k1 ?k2 ?k3 ?k4 ?k5 ?kK ?kU ?kD ?kDS ?ki ?p1 ?p2 ?p3 ?p4 ?p5 ?kd ?ku ?_; (case k1 => k_asm); (case k2 => k_asm); (case k3 => k_asm); (case k4 => k_asm); (case k5 => k_asm); (case kK => first | exact rfl | assumption); (case kU => k_updF); (case kD => k_mem); (case kDS => k_ne); (case ki => l_ints); (case p1 => (simp only [List.length_cons]; omega)); (case p2 => (simp only [List.length_cons, List.length_nil]; omega)); (case p3 => omega); (case p4 => omega); (case p5 => omega); (case kd => ktr_room); (case ku => ktr_units); k_whole); intro r' a' b' t' ta' tb' h' tk' r1' r2' r3' r4' F' N'; (have hb' := menu_bound r1' (by decide)); (try dsimp only at N'); (try k_sweep); (try dsimp only); (try k_fold)))
local macro_rules | `(tactic| walk_at "call ref") => `(tactic| (k_here; (try dsimp only [List.nil_append, List.cons_append, List.append_nil]); (with_reducible show wpAny _ _ (call (Value.ref _) [Value.int _ _, Value.int _ _, Value.int _ _]) _ _ _); k_dflt (refine' made_use ?k1 ?k2 ?k3 ?k4 ?k5 ?kK ?kd ?ku ?_; (case k1 => k_asm); (case k2 => k_asm); (case k3 => k_asm); (case k4 => k_asm); (case k5 => k_asm); (case kK => first | exact rfl | assumption); (case kd => ktr_room); (case ku => ktr_units); k_whole); intro x' d' k1' k2' k3' k4' k5' k6' t4' t5' t6' h' tk' l1' l2' F' N'; (have hO' := ownOff_lt (ktn_ltOf l1')); (repeat (replace hO' := ownOff_tail hO')); (try simp only [AllLt, and_true] at l1'); (try dsimp only at N'); (try k_sweep); (try dsimp only); (try k_fold)))
local macro_rules | `(tactic| walk_at "call ref") => `(tactic| (k_here; (try dsimp only [List.nil_append, List.cons_append, List.append_nil]); (with_reducible show wpAny _ _ (call (Value.ref _) [Value.ref _, Value.ref _, Value.ref _]) _ _ _); k_dflt (refine' followed_use ?k1 ?k2 ?k3 ?k4 ?k5 ?kK ?kU ?kx ?kT ?kB ?p1 ?p2 ?p3 ?p4 ?p5 ?kd ?ku ?_; (case k1 => k_asm); (case k2 => k_asm); (case k3 => k_asm); (case k4 => k_asm); (case k5 => k_asm); (case kK => first | exact rfl | assumption); (case kx => k_mem); (case kU => k_updF); (case kT => k_mem); (case kB => k_mem); (case p1 => omega); (case p2 => omega); (case p3 => omega); (case p4 => k_asm); (case p5 => omega); (case kd => ktr_room); (case ku => ktr_units); k_whole); intro o' h' tk' F' N'; (try dsimp only at N'); (try k_sweep); (try dsimp only); (try k_fold)))
local macro_rules | `(tactic| walk_at "exec For Name Call cons nil") => `(tactic| (k_here; (rename Fr _ _ _ _ => lF'); (with_unfolding_all refine' For_invVF lF' ?k1 ?k2 ?_; (case k1 => exact rfl); (case k2 => exact rfl); k_whole)))
local macro_rules | `(tactic| walk_at "pyIter ref") => `(tactic| ((with_reducible show wpAny _ _ (pyIter (Value.ref _)) (fun it s₂ => LoopAtV _ _ _ _ _ _ _ _ _ it s₂) _ _); refine hold ?_))

theorem map1 {m : Str → Option Value} {x1 : Str} {v1 : Value} (h1 : m x1 = some v1) :
    m = fun y => if y = x1 then some v1 else m y := by
  funext y
  repeat (first | rfl | (split; (rename_i e; rw [e]; assumption)))
theorem map3 {m : Str → Option Value} {x1 x2 x3 : Str} {v1 v2 v3 : Value} (h1 : m x1 = some v1) (h2 : m x2 = some v2) (h3 : m x3 = some v3) :
    m = fun y => if y = x1 then some v1 else if y = x2 then some v2 else if y = x3 then some v3 else m y := by
  funext y
  repeat (first | rfl | (split; (rename_i e; rw [e]; assumption)))

def LawJ (base : Heap) (_ : Nat) (m : Str → Option Value) (nx : Led) : Prop :=
  nx = [] ∧ ∃ (l : Addr) (vs : List Value) (ns : List Int), base.IsList l vs.toArray ∧ IntsAre vs ns ∧ ns.length < 2 ^ 62 ∧ m (Str.ofString "script") = some (.ref l)

def box (v : Int) : Nat → Int × Int × Int
  | 0 => (0, 712, 178)
  | n + 1 => let p := box v n; (p.1 + (v - p.1 / 8), p.2.1 + (v - p.2.1 / 8), p.2.2 + max (v - p.1 / 8) (p.2.1 / 8 - v) - p.2.2 / 4)
theorem box_fin : ∀ v ∈ ([0, 1, 9, 50] : List Int), (box v 80).1 / 8 = v ∧ (box v 80).2.1 / 8 = v ∧ (box v 80).2.2 ≤ 3 := by decide +kernel
theorem box_step {v m8 s4 : Int} {i : Nat} (h1 : (box v i).1 ≤ m8) (h2 : m8 ≤ (box v i).2.1) (h3 : 0 ≤ s4) (h4 : s4 ≤ (box v i).2.2) :
    (box v (i + 1)).1 ≤ m8 + (v - m8 / 8) ∧ m8 + (v - m8 / 8) ≤ (box v (i + 1)).2.1 ∧ 0 ≤ s4 + max (v - m8 / 8) (m8 / 8 - v) - s4 / 4 ∧ s4 + max (v - m8 / 8) (m8 / 8 - v) - s4 / 4 ≤ (box v (i + 1)).2.2 := by
  simp only [box]
  generalize (box v i).1 = a at *
  generalize (box v i).2.1 = b at *
  generalize (box v i).2.2 = c at *
  omega

def LongJ (w : World) (base : Heap) (own : Led) (v : Int) (i : Nat) (m : Str → Option Value) (nx : Led) : Prop :=
  ∃ (x d : Addr) (k1 k2 k3 k4 k5 k6 t1 t2 t3 u4 u5 u6 : Tok) (mo m8 s4 me : Int) (l : Addr) (vs : List Value) (ns : List Int) (vt : Tok),
    nx = (x, instObj 66 d) :: (d, estOf w k1 k2 k3 k4 k5 k6 t1 t2 t3 u4 u5 u6 60 0 mo m8 s4 me) :: own ∧ mo = 1000000 ∧ me = 1 + (i : Int) ∧ @LT.lt Nat _ d x ∧ OwnOff own [d] ∧
    (box v i).1 ≤ m8 ∧ m8 ≤ (box v i).2.1 ∧ 0 ≤ s4 ∧ s4 ≤ (box v i).2.2 ∧
    base.IsList l vs.toArray ∧ IntsAre vs ns ∧ ns.length < 2 ^ 62 ∧ m (Str.ofString "script") = some (.ref l) ∧ m (Str.ofString "long") = some (.ref x) ∧ m (Str.ofString "ticks") = some (.int v vt)

theorem long_start {w : World} {base : Heap} {own news : Led} {v : Int} {m : Str → Option Value} {h₀ h : Heap} {L : Addr} {x d : Addr} {k1 k2 k3 k4 k5 k6 t1 t2 t3 u4 u5 u6 : Tok} {mo m8 s4 me : Int} {l : Addr} {vs : List Value} {ns : List Int} {vt : Tok}
    (hF : Fr h₀ L h m) (hml : m (Str.ofString "long") = some (.ref x)) (hmt : m (Str.ofString "ticks") = some (.int v vt)) (hms : m (Str.ofString "script") = some (.ref l)) (N : News h₀ L h news)
    (hx : (x, instObj 66 d) ∈ news) (hdd : (d, estOf w k1 k2 k3 k4 k5 k6 t1 t2 t3 u4 u5 u6 60 0 mo m8 s4 me) ∈ news) (hown : ∀ p ∈ own, p ∈ news) (hmo : mo = 1000000) (hme : me = 1) (hdx : @LT.lt Nat _ d x) (hO : OwnOff own [d])
    (h1 : 0 ≤ m8) (h2 : m8 ≤ 712) (h3 : 0 ≤ s4) (h4 : s4 ≤ 178) (hl : base.IsList l vs.toArray) (hi : IntsAre vs ns) (hn : ns.length < 2 ^ 62) : ∃ nx, News h₀ L h nx ∧ LongJ w base own v 0 m nx := by
  refine ⟨(x, instObj 66 d) :: (d, estOf w k1 k2 k3 k4 k5 k6 t1 t2 t3 u4 u5 u6 60 0 mo m8 s4 me) :: own, fun p hp => N p ?_, x, d, k1, k2, k3, k4, k5, k6, t1, t2, t3, u4, u5, u6, mo, m8, s4, me, l, vs, ns, vt, rfl, hmo, by omega, hdx, hO, h1, h2, h3, h4, hl, hi, hn, hms, hml, hmt⟩
  rcases List.mem_cons.mp hp with rfl | hp
  · exact hx
  · rcases List.mem_cons.mp hp with rfl | hp
    · exact hdd
    · exact hown p hp

theorem long_end {w : World} {base : Heap} {own own2 news' : Led} {v : Int} {m' : Str → Option Value} {h₀ h' : Heap} {L : Addr} {x d : Addr} {k1 k2 k3 k4 k5 k6 t1 t2 t3 u4 u5 u6 : Tok} {mo m8 s4 me y8 y4 ye : Int} {l : Addr} {vs : List Value} {ns : List Int} {vt : Tok} {i : Nat} {s₁ : Shared} {tk : Nat}
    (F : Fr h₀ L h' m') (N : News h₀ L h' news') (hml : m' (Str.ofString "long") = some (.ref x)) (hmt : m' (Str.ofString "ticks") = some (.int v vt)) (hms : m' (Str.ofString "script") = some (.ref l))
    (hx : (x, instObj 66 d) ∈ news') (hdd : (d, estOf w k1 k2 k3 k4 k5 k6 t1 t2 t3 u4 u5 u6 60 0 mo y8 y4 ye) ∈ news') (hown : ∀ p ∈ own ++ own2, p ∈ news') (hmo : mo = 1000000) (hme : me = 1 + (i : Int)) (hdx : @LT.lt Nat _ d x) (hO : OwnOff own [d]) (hO2 : OwnOff own2 (x :: d :: own.map (·.1)))
    (h1 : (box v i).1 ≤ m8) (h2 : m8 ≤ (box v i).2.1) (h3 : 0 ≤ s4) (h4 : s4 ≤ (box v i).2.2) (e1 : y8 = m8 + (v - m8 / 8)) (e2 : y4 = s4 + max (v - m8 / 8) (m8 / 8 - v) - s4 / 4) (e3 : ye = me + 1)
    (hl : base.IsList l vs.toArray) (hi : IntsAre vs ns) (hn : ns.length < 2 ^ 62) :
    InvEndG h₀ L (LongJ w base own v (i + 1)) own2 s₁ { s₁ with heap := h', toks := tk } := by
  subst e1 e2 e3
  obtain ⟨b1, b2, b3, b4⟩ := box_step h1 h2 h3 h4
  refine InvEndG.intro (nx := (x, instObj 66 d) :: (d, estOf w k1 k2 k3 k4 k5 k6 t1 t2 t3 u4 u5 u6 60 0 mo (m8 + (v - m8 / 8)) (s4 + max (v - m8 / 8) (m8 / 8 - v) - s4 / 4) (me + 1)) :: own) F N
    ⟨x, d, k1, k2, k3, k4, k5, k6, t1, t2, t3, u4, u5, u6, mo, m8 + (v - m8 / 8), s4 + max (v - m8 / 8) (m8 / 8 - v) - s4 / 4, me + 1, l, vs, ns, vt, rfl, hmo, by omega, hdx, hO, b1, b2, b3, b4, hl, hi, hn, hms, hml, hmt⟩ hO2 (fun p hp => ?_) (fun p hp => hown p (List.mem_append.mpr (.inr hp)))
  rcases List.mem_cons.mp hp with rfl | hp
  · exact hx
  · rcases List.mem_cons.mp hp with rfl | hp
    · exact hdd
    · exact hown p (List.mem_append.mpr (.inl hp))

theorem law_holds : PySem.Challenge.rw_nu0117_01.Holds := hd (by
  w_on
  w_strict (
    k_go0
    all_goals try k_fold
    k_steps
    unfold Hold
    rename Fr _ _ _ _ => lF
    rename News _ _ _ _ => lN
    rename IsRange _ _ _ _ _ _ _ _ => rgX
    rename Heap.IsList _ _ _ => hL
    rename IntsAre _ _ => hI
    with_unfolding_all refine' rangeG (LawJ _) (by rfl) rgX (by (repeat' split) <;> omega) (by (repeat' split) <;> omega) lF lN ⟨rfl, _, _, _, hL, hI, by omega, by rfl⟩ ?turn ?done
    case turn =>
      intro i t m₁ nx h tk own hi hoff1 hJ F₁ N₁
      obtain ⟨rfl, l9, vs9, ns9, hl9, hi9, hn9, hm1⟩ := hJ
      rw [map1 hm1] at F₁
      simp only [List.nil_append] at N₁
      have hi3 : (i : Int) < 3 := by
        revert hi
        (repeat' split) <;> omega
      clear lF lN
      with_reducible show wpAny _ _ _ _ _ _
      k_fold
      k_steps
      unfold Hold
      rename Fr _ _ _ _ => lF
      rename News _ _ _ _ => lN
      rename IsRange _ _ _ _ _ _ _ _ => rgX
      rename _ ∈ _ => hmem
      obtain ⟨nx0, N0, J0⟩ := long_start (base := _) (own := own) lF (by rfl) (by rfl) (by rfl) lN (by k_mem) (by k_mem) (by intro p hp; repeat (first | exact hp | refine List.Mem.tail _ ?_)) (by decide) (by omega) (by omega) (by assumption) (by omega) (by omega) (by omega) (by omega) hl9 hi9 hn9
      with_unfolding_all refine' rangeG (LongJ _ _ own _) (by rfl) rgX (by omega) (by omega) lF N0 J0 ?turn2 ?done2
      case turn2 =>
        intro j t2 m₂ nx2 h2 tk2 own2 hj2 hoff2 hJ2 F₂ N₂
        obtain ⟨x, d, k1, k2, k3, k4, k5, k6, t1, t2', t3, u4, u5, u6, mo, m8, s4, me, l8, vs8, ns8, vt, rfl, hmo, hme, hdx, hod, g1, g2, g3, g4, hl8, hi8, hn8, hm1, hm2, hm3⟩ := hJ2
        rw [map3 hm1 hm2 hm3] at F₂
        simp only [List.cons_append] at N₂
        have hO2 : OwnOff (own ++ own2) [d] := off_app hod hoff2 (.tail _ (.head _))
        clear lF lN N0 J0
        with_reducible show wpAny _ _ _ _ _ _
        k_fold
        k_steps
        refine long_end (i := j) (own := own) (own2 := own2) (m8 := m8) (s4 := s4) (me := me) (by k_asm) (by k_asm) (by rfl) (by rfl) (by rfl) (by k_memK) (by k_memK) (by intro p hp; repeat (first | exact hp | refine List.Mem.tail _ ?_)) hmo hme hdx hod hoff2 g1 g2 g3 g4 (by rfl) (by rfl) (by rfl) hl8 hi8 hn8
      case done2 =>
        intro nn m₂ nx2 h2 tk2 hn2 hJ2 F₂ N₂
        obtain ⟨x, d, k1, k2, k3, k4, k5, k6, t1, t2', t3, u4, u5, u6, mo, m8, s4, me, l8, vs8, ns8, vt, rfl, hmo, hme, hdx, hod, g1, g2, g3, g4, hl8, hi8, hn8, hm1, hm2, hm3⟩ := hJ2
        have hn80 : nn = 80 := by omega
        subst hn80
        obtain ⟨f1, f2, f3⟩ := box_fin _ hmem
        rw [map3 hm1 hm2 hm3] at F₂
        clear lF lN N0 J0
        dsimp only
        k_steps
        refine InvEndG.intro (nx := []) (by k_asm) (by k_asm) ⟨rfl, l8, vs8, ns8, hl8, hi8, hn8, by rfl⟩ (fun _ _ _ h => nomatch h) (fun _ h => nomatch h) (by intro p hp; repeat (first | exact hp | refine List.Mem.tail _ ?_))
    case done =>
      intro nn m₁ nx h tk hnn hJ F₁ N₁
      obtain ⟨rfl, l9, vs9, ns9, hl9, hi9, hn9, hm1⟩ := hJ
      rw [map1 hm1] at F₁
      clear lF lN
      dsimp only
      k_steps))
end
end Mine

set_option maxRecDepth 100000 in
set_option maxHeartbeats 8000000 in
theorem PySem.Challenge.cw_nu0117_01_holds : PySem.Challenge.rw_nu0117_01.Holds := by
  exact Mine.law_holds
