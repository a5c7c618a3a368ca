import PyProof.Rows.All
import Wide.All
import OpenK.AllK
import Wide.FinOn
import PySem.Challenge.RW_xm0025_01
set_option Elab.async false
set_option linter.unusedVariables false
set_option linter.unusedSimpArgs false
namespace Mine
open PySem PySem.W PyProof.Rows
set_option maxRecDepth 100000 in
set_option maxHeartbeats 8000000 in
open_top hd for PySem.Challenge.rw_xm0025_01
end Mine
-- part C1
namespace Mine
open PySem PySem.W PyProof.Rows
theorem fmod_bounds {x b : Int} (h : 0 < b) : 0 ≤ x.fmod b ∧ x.fmod b < b := by
  rw [Int.fmod_eq_emod_of_nonneg _ (by omega)]
  exact ⟨Int.emod_nonneg _ (by omega), Int.emod_lt_of_pos _ h⟩
local macro_rules | `(tactic| k_all) => `(tactic| assumption)
set_option maxRecDepth 100000 in
set_option maxHeartbeats 8000000 in
theorem picked_call {w : World} {loose : List Str} {mean : ExcName → Option Value} {mg mb : Str → Option Value}
    {dp un : Nat} {gd : Option (List Code)} {cn : Str} {cs : Scope} {a : Addr} {ccd : Value} {cl : List (Str × Addr)} {outer : List Env} {A₀ : Around} {base h₀ : Heap} {L : Addr} {m : Str → Option Value} {s : Shared} {Q E : Value → Shared → Prop}
    {bag l : Addr} {k : Int} {tk : Tok} {c c2 : Nat} {us : List Value} {ns : List Int} {rest : List (Addr × Obj)} {b : Int} {tb : Tok}
    (B : Below A₀ base outer h₀) (F : Fr h₀ L s.heap m) (X : (hd.heap_39 w.params).In h₀)
    (N : News h₀ L s.heap ((bag, PySem.W.listOf #[.ref l, .int k tk] c) :: (l, PySem.W.listOf us.toArray c2) :: rest))
    (T : Top hd.view_39 loose mean mg mb h₀) (hk : cs.kind = .function) (hI : IntsAre us ns) (hlen : ns.length ≤ 11)
    (hk0 : 0 ≤ k) (hk1 : k ≤ 100) (hb0 : 1 ≤ b) (hb1 : b ≤ 9) (hr : ∀ p ∈ (l, PySem.W.listOf us.toArray c2) :: rest, p.1 ≠ bag)
    (hdp : dp + 3 < recursionLimit) (hu : un + 24 < cLine)
    (ret : ∀ (v : Int) (t t' : Tok) (h' : Heap) (tk' : Nat), 0 ≤ v → v < b → Fr h₀ L h' m →
      News h₀ L h' ((bag, PySem.W.listOf #[.ref l, .int (k + 1) t'] c) :: (l, PySem.W.listOf us.toArray c2) :: rest) → Q (.int v t) { s with heap := h', toks := tk' }) :
    wpAny (model PySem.Challenge.rw_xm0025_01.row.prog w) (ktrTop dp un gd cn cs L a ccd cl outer) (call (.ref 121) [.ref bag, .int b tb]) Q E s := by
  revert X; k_fill; intro X
  w_on
  refine wpAny_call ?_
  k_dflt cell_enter
  k_steps
  all_goals (refine ret _ _ _ _ _ (fmod_bounds (by omega)).1 (fmod_bounds (by omega)).2 (by k_asm) (by k_asm))
end Mine
-- part C2
namespace Mine
open PySem PySem.W PyProof.Rows
theorem picked_use {w : World} {loose : List Str} {mean : ExcName → Option Value} {mg mb : Str → Option Value}
    {dp un : Nat} {gd : Option (List Code)} {cn : Str} {cs : Scope} {a : Addr} {ccd : Value} {cl : List (Str × Addr)} {outer : List Env} {A₀ : Around} {base h₀ : Heap} {L : Addr} {m : Str → Option Value} {s : Shared} {Q E : Value → Shared → Prop}
    {bag l : Addr} {k : Int} {tk : Tok} {c c2 : Nat} {us : List Value} {ns : List Int} {news : List (Addr × Obj)} {g : Obj → List (Addr × Obj)} {b : Int} {tb : Tok}
    (B : Below A₀ base outer h₀) (F : Fr h₀ L s.heap m) (X : (hd.heap_39 w.params).In h₀)
    (N : News h₀ L s.heap news) (T : Top hd.view_39 loose mean mg mb h₀) (hk : cs.kind = .function)
    (hU : UpdF bag (PySem.W.listOf #[.ref l, .int k tk] c) news g) (hl : (l, PySem.W.listOf us.toArray c2) ∈ news) (hne : l ≠ bag)
    (hI : IntsAre us ns) (hlen : ns.length ≤ 11)
    (hk0 : 0 ≤ k) (hk1 : k ≤ 100) (hb0 : 1 ≤ b) (hb1 : b ≤ 9) 
    (hdp : dp + 3 < recursionLimit) (hu : un + 24 < cLine)
    (ret : ∀ (v : Int) (t t' : Tok) (h' : Heap) (tk' : Nat), 0 ≤ v → v < b → Fr h₀ L h' m →
      News h₀ L h' (g (PySem.W.listOf #[.ref l, .int (k + 1) t'] c)) → Q (.int v t) { s with heap := h', toks := tk' }) :
    wpAny (model PySem.Challenge.rw_xm0025_01.row.prog w) (ktrTop dp un gd cn cs L a ccd cl outer) (call (.ref 121) [.ref bag, .int b tb]) Q E s := by
  obtain ⟨pre, post, e1, e2, h1, h2⟩ := hU.split
  have hl2 : (l, PySem.W.listOf us.toArray c2) ∈ pre ++ post := by
    rw [e1] at hl
    rcases List.mem_append.mp hl with h | h
    · exact List.mem_append.mpr (.inl h)
    · rcases List.mem_cons.mp h with h | h
      · exact absurd (congrArg Prod.fst h) hne
      · exact List.mem_append.mpr (.inr h)
  refine picked_call (rest := pre ++ post) B F X (c := c) (k := k) (tk := tk) (us := us) (ns := ns) (c2 := c2) (l := l) (bag := bag) ?_ T hk hI hlen hk0 hk1 hb0 hb1 ?_ hdp hu ?_
  · intro p hp
    refine N p ?_
    rw [e1]
    rcases List.mem_cons.mp hp with rfl | hp
    · simp
    · rcases List.mem_cons.mp hp with rfl | hp
      · rcases List.mem_append.mp hl2 with h | h <;> simp [h]
      · rcases List.mem_append.mp hp with h | h <;> simp [h]
  · intro p hp
    rcases List.mem_cons.mp hp with rfl | hp
    · exact hne
    · rcases List.mem_append.mp hp with h | h
      · exact h1 p h
      · exact h2 p h
  · intro v t t' h' tk' hv0 hv1 F' N'
    refine ret v t t' h' tk' hv0 hv1 F' ?_
    rw [e2]
    intro p hp
    refine N' p ?_
    rcases List.mem_append.mp hp with h | h
    · simp [h]
    · rcases List.mem_cons.mp h with h | h
      · simp [h]
      · simp [h]
end Mine
-- part L1
namespace Mine
open PySem PySem.Builtin PySem.Builtin.Str
def tx (l : List Nat) : Str := ⟨l.toArray⟩
theorem tx_list (x : Str) : tx x.cps.toList = x := by rcases x with ⟨a⟩; simp [tx]
theorem tx_len (l : List Nat) : (tx l).length = l.length := by simp [tx, Str.length]
theorem tx_append (l r : List Nat) : tx l ++ tx r = tx (l ++ r) := by
  show Str.append (tx l) (tx r) = _
  simp [tx, Str.append]
theorem pick_range (xs : List Nat) (a b : Nat) (hb : b ≤ xs.length) : (sliceRange a b 1).filterMap (xs.toArray[·]?) = (xs.drop a).take (b - a) := by
  rw [sliceRange_one]
  rw [List.filterMap_map]
  apply List.ext_getElem?
  intro i
  by_cases hi : i < b - a
  · have h1 : (List.range (b - a)).filterMap ((fun x => xs.toArray[x]?) ∘ fun x => a + x) = (List.range (b - a)).map (fun i => xs.getD (a + i) 0) := by
      have gen : ∀ l : List Nat, (∀ k ∈ l, a + k < xs.length) → l.filterMap ((fun x => xs.toArray[x]?) ∘ fun x => a + x) = l.map (fun i => xs.getD (a + i) 0) := by
        intro l
        induction l with
        | nil => intro _; rfl
        | cons k r ih =>
          intro hl
          have h2 := hl k (.head _)
          rw [List.filterMap_cons, List.map_cons, ih fun j hj => hl j (.tail _ hj)]
          simp [h2]
      refine gen _ fun k hk => ?_
      have : k < b - a := List.mem_range.mp hk
      omega
    rw [h1]
    have h3 : a + i < xs.length := by omega
    simp [List.getElem?_take, List.getElem?_drop, hi, h3]
  · have hlen : ((List.range (b - a)).filterMap ((fun x => xs.toArray[x]?) ∘ fun x => a + x)).length ≤ b - a := by
      refine Nat.le_trans (List.length_filterMap_le _ _) ?_
      simp
    rw [List.getElem?_eq_none (by omega), List.getElem?_eq_none (by simp; omega)]
theorem slice_tx (xs : List Nat) (l u : Option Int) (a b : Nat) (hab : strSliceIndices l u 1 xs.length = sliceRange a b 1) (hb : b ≤ xs.length) : Txt.slice (tx xs) l u = tx ((xs.drop a).take (b - a)) := by
  unfold Txt.slice
  rw [tx_len, hab]
  split
  · rename_i h
    have hl : (sliceRange (a : Int) b 1).length = b - a := by rw [sliceRange_one]; simp
    rw [hl] at h
    simp at h
    have : a = 0 ∧ b = xs.length ∨ xs.length = 0 := by omega
    rcases this with ⟨rfl, rfl⟩ | h0
    · simp
    · have : xs = [] := List.length_eq_zero_iff.mp h0
      subst this; simp
  · show tx _ = _
    congr 1
    exact pick_range xs a b hb
theorem slice_head (xs : List Nat) : Txt.slice (tx xs) none (some 1) = tx (xs.take 1) := by
  have h := slice_tx xs none (some 1) 0 (min 1 xs.length) (by
    unfold strSliceIndices
    simp only [show (1 : Int) > 0 by decide, if_true, show ¬ ((1 : Int) < 0) by decide, if_false]
    congr 1
    omega) (by omega)
  rw [h]
  congr 1
  cases xs <;> simp
theorem slice_tail (xs : List Nat) (h : xs.length ≤ 257) : Txt.slice (tx xs) (some (3 - 1)) (some (3 - 1 + 255)) = tx (xs.drop 2) := by
  have h := slice_tx xs (some (3 - 1)) (some (3 - 1 + 255)) (min 2 xs.length) xs.length (by
    unfold strSliceIndices
    simp only [show (1 : Int) > 0 by decide, if_true, show ¬ ((3 - 1 : Int) < 0) by decide, show ¬ ((3 - 1 + 255 : Int) < 0) by decide, if_false]
    congr 1 <;> omega) (by omega)
  rw [h]
  congr 1
  rw [List.take_of_length_le (by simp)]
  by_cases h2 : 2 ≤ xs.length
  · rw [Nat.min_eq_left h2]
  · rw [List.drop_eq_nil_of_le (by omega), List.drop_eq_nil_of_le (by omega)]
theorem mul_tx (xs : List Nat) (n : Int) : Txt.mul (tx xs) n = tx (List.replicate n.toNat xs).flatten := by
  unfold Txt.mul
  split
  · rename_i h
    have : n.toNat = 0 := by omega
    rw [this]; rfl
  · split
    · rename_i h h2
      rw [tx_len] at h2
      rcases Bool.or_eq_true _ _ ▸ h2 with h3 | h3
      · have : n = 1 := by simpa using h3
        subst this; simp
      · have : xs.length = 0 := by simpa using h3
        have : xs = [] := List.length_eq_zero_iff.mp this
        subst this
        simp
    · show tx _ = _
      have : ∀ (k : Nat) (acc : List Nat), ((List.replicate k (tx xs).cps).foldl (· ++ ·) acc.toArray) = (acc ++ (List.replicate k xs).flatten).toArray := by
        intro k
        induction k with
        | zero => intro acc; simp
        | succ k ih =>
          intro acc
          rw [List.replicate_succ, List.foldl_cons]
          have : acc.toArray ++ (tx xs).cps = (acc ++ xs).toArray := by simp [tx]
          rw [this, ih, List.replicate_succ]
          simp
      have h := this n.toNat []
      unfold tx
      congr 1
theorem mul_one (c : Nat) (n : Int) : Txt.mul (tx [c]) n = tx (List.replicate n.toNat c) := by
  rw [mul_tx]; congr 1; simp
theorem item_zero (c : Nat) (r : List Nat) : Txt.item (tx (c :: r)) 0 = tx [c] := by
  unfold Txt.item Txt.charAt
  rw [tx_len]
  simp [seqIndex?, tx]
theorem tx_inj {l r : List Nat} (h : tx l = tx r) : l = r := by
  have := congrArg (fun s : Str => s.cps.toList) h
  simpa [tx] using this
theorem tx_eq_iff (l r : List Nat) : (tx l == tx r) = decide (l = r) := by
  by_cases h : l = r
  · subst h; simp
  · simp only [h, decide_false]
    exact beq_eq_false_iff_ne.mpr fun e => h (tx_inj e)
end Mine
-- part D1
namespace Mine
open PySem PySem.W PyProof.Rows
set_option maxRecDepth 100000 in
set_option maxHeartbeats 8000000 in
theorem textOf_call {w : World} {loose : List Str} {mean : ExcName → Option Value} {mg mb : Str → Option Value}
    {dp un : Nat} {gd : Option (List Code)} {cn : Str} {cs : Scope} {a : Addr} {ccd : Value} {cl : List (Str × Addr)} {outer : List Env} {A₀ : Around} {base h₀ : Heap} {L : Addr} {m : Str → Option Value} {s : Shared} {Q E : Value → Shared → Prop}
    {news : List (Addr × Obj)} {T : Str} {tT : Tok}
    (Bl : Below A₀ base outer h₀) (F : Fr h₀ L s.heap m) (X : (hd.heap_39 w.params).In h₀) (N : News h₀ L s.heap (news)) (TT : Top hd.view_39 loose mean mg mb h₀) (hk : cs.kind = .function)
    
    (hdp : dp + 2 < recursionLimit) (hu : un + 16 < cLine)
    (ret : ∀  (h' : Heap) (tk' : Nat), Fr h₀ L h' m → News h₀ L h' (news) → Q (.str T tT) { s with heap := h', toks := tk' }) :
    wpAny (model PySem.Challenge.rw_xm0025_01.row.prog w) (ktrTop dp un gd cn cs L a ccd cl outer) (call (.ref 65) [.str T tT]) Q E s := by
  revert X; k_fill; intro X
  w_on
  refine wpAny_call ?_
  k_dflt cell_enter
  k_steps
  all_goals first | (refine ret _ _ (by k_asm) (by k_asm))

set_option maxRecDepth 100000 in
set_option maxHeartbeats 8000000 in
theorem sizeTold_call {w : World} {loose : List Str} {mean : ExcName → Option Value} {mg mb : Str → Option Value}
    {dp un : Nat} {gd : Option (List Code)} {cn : Str} {cs : Scope} {a : Addr} {ccd : Value} {cl : List (Str × Addr)} {outer : List Env} {A₀ : Around} {base h₀ : Heap} {L : Addr} {m : Str → Option Value} {s : Shared} {Q E : Value → Shared → Prop}
    {news : List (Addr × Obj)} {k : Int} {tk : Tok}
    (Bl : Below A₀ base outer h₀) (F : Fr h₀ L s.heap m) (X : (hd.heap_39 w.params).In h₀) (N : News h₀ L s.heap (news)) (TT : Top hd.view_39 loose mean mg mb h₀) (hk : cs.kind = .function)
    (h0 : 0 ≤ k) (h1 : k ≤ 255)
    (hdp : dp + 2 < recursionLimit) (hu : un + 16 < cLine)
    (ret : ∀  (h' : Heap) (tk' : Nat), Fr h₀ L h' m → News h₀ L h' (news) → Q (.int k tk) { s with heap := h', toks := tk' }) :
    wpAny (model PySem.Challenge.rw_xm0025_01.row.prog w) (ktrTop dp un gd cn cs L a ccd cl outer) (call (.ref 79) [.int k tk]) Q E s := by
  revert X; k_fill; intro X
  w_on
  refine wpAny_call ?_
  k_dflt cell_enter
  k_steps
  all_goals first | (refine ret _ _ (by k_asm) (by k_asm))

set_option maxRecDepth 100000 in
set_option maxHeartbeats 8000000 in
theorem checked_call {w : World} {loose : List Str} {mean : ExcName → Option Value} {mg mb : Str → Option Value}
    {dp un : Nat} {gd : Option (List Code)} {cn : Str} {cs : Scope} {a : Addr} {ccd : Value} {cl : List (Str × Addr)} {outer : List Env} {A₀ : Around} {base h₀ : Heap} {L : Addr} {m : Str → Option Value} {s : Shared} {Q E : Value → Shared → Prop}
    {news : List (Addr × Obj)} {T : Str} {tT : Tok}
    (Bl : Below A₀ base outer h₀) (F : Fr h₀ L s.heap m) (X : (hd.heap_39 w.params).In h₀) (N : News h₀ L s.heap (news)) (TT : Top hd.view_39 loose mean mg mb h₀) (hk : cs.kind = .function)
    (h0 : T.length ≤ 255)
    (hdp : dp + 2 < recursionLimit) (hu : un + 16 < cLine)
    (ret : ∀  (h' : Heap) (tk' : Nat), Fr h₀ L h' m → News h₀ L h' (news) → Q (.str T tT) { s with heap := h', toks := tk' }) :
    wpAny (model PySem.Challenge.rw_xm0025_01.row.prog w) (ktrTop dp un gd cn cs L a ccd cl outer) (call (.ref 72) [.str T tT]) Q E s := by
  revert X; k_fill; intro X
  w_on
  refine wpAny_call ?_
  k_dflt cell_enter
  k_steps
  all_goals first | (refine ret _ _ (by k_asm) (by k_asm))
end Mine
-- part D2
namespace Mine
open PySem PySem.W PyProof.Rows
theorem len_append (T S : Str) : (T ++ S).length = T.length + S.length := Array.size_append
theorem sz_add {T S : Str} (h : T.length + S.length ≤ 1000) : T.length + S.length ≤ sizeLine := by
  have e : sizeLine = 2 ^ 24 := rfl
  omega
theorem ne_empty {T : Str} (h : T.length = 1) : (T == Str.ofString "") = false := by
  rcases T with ⟨cps⟩
  have h2 : cps.size = 1 := h
  have e : (Str.ofString "") = ⟨#[]⟩ := by decide
  rw [e]
  refine beq_eq_false_iff_ne.mpr fun hh => ?_
  have := congrArg Str.cps hh
  simp only at this
  rw [this] at h2
  simp at h2
local macro_rules | `(tactic| walk_at "binaryOp Add str str") => `(tactic| (k_here; (refine add_str ?_ (hsz := ?hz); (case hz => exact sz_add (by omega))); intro _ _))
local macro_rules | `(tactic| walk_at "call ref") => `(tactic| (k_here; k_dflt (refine' textOf_call ?k1 ?k2 ?k3 ?k4 ?k5 ?k6  ?k7 ?k8 ?_; (case k1 => k_asm); (case k2 => k_asm); (case k3 => k_asm); (case k4 => k_asm); (case k5 => k_asm); (case k6 => first | exact rfl | assumption);  (case k7 => ktr_room); (case k8 => ktr_units); k_whole; intro h9 tk9 F9 N9; (try dsimp only); (try k_fold))))
local macro_rules | `(tactic| walk_at "call ref") => `(tactic| (k_here; k_dflt (refine' sizeTold_call ?k1 ?k2 ?k3 ?k4 ?k5 ?k6 ?h0 ?h1 ?k7 ?k8 ?_; (case k1 => k_asm); (case k2 => k_asm); (case k3 => k_asm); (case k4 => k_asm); (case k5 => k_asm); (case k6 => first | exact rfl | assumption); (case h0 => omega); (case h1 => omega); (case k7 => ktr_room); (case k8 => ktr_units); k_whole; intro h9 tk9 F9 N9; (try dsimp only); (try k_fold))))
local macro_rules | `(tactic| walk_at "call ref") => `(tactic| (k_here; k_dflt (refine' checked_call ?k1 ?k2 ?k3 ?k4 ?k5 ?k6 ?h0 ?k7 ?k8 ?_; (case k1 => k_asm); (case k2 => k_asm); (case k3 => k_asm); (case k4 => k_asm); (case k5 => k_asm); (case k6 => first | exact rfl | assumption); (case h0 => (rw [len_append]; omega)); (case k7 => ktr_room); (case k8 => ktr_units); k_whole; intro h9 tk9 F9 N9; (try dsimp only); (try k_fold))))
set_option maxRecDepth 100000 in
set_option maxHeartbeats 8000000 in
theorem textLeft_call {w : World} {loose : List Str} {mean : ExcName → Option Value} {mg mb : Str → Option Value}
    {dp un : Nat} {gd : Option (List Code)} {cn : Str} {cs : Scope} {a : Addr} {ccd : Value} {cl : List (Str × Addr)} {outer : List Env} {A₀ : Around} {base h₀ : Heap} {L : Addr} {m : Str → Option Value} {s : Shared} {Q E : Value → Shared → Prop}
    {rest : List (Addr × Obj)} {T : Str} {tT t1 : Tok} {l : Addr} {c : Nat}
    (Bl : Below A₀ base outer h₀) (F : Fr h₀ L s.heap m) (X : (hd.heap_39 w.params).In h₀) (N : News h₀ L s.heap ((l, PySem.W.listOf #[.str T tT, .int 1 t1] c) :: rest)) (TT : Top hd.view_39 loose mean mg mb h₀) (hk : cs.kind = .function)
    (hT : T.length ≤ 255)
    (hdp : dp + 4 < recursionLimit) (hu : un + 32 < cLine)
    (ret : ∀ (t : Tok) (h' : Heap) (tk' : Nat), Fr h₀ L h' m → News h₀ L h' ((l, PySem.W.listOf #[.str T tT, .int 1 t1] c) :: rest) → Q (.str (Txt.slice T none (some 1)) t) { s with heap := h', toks := tk' }) :
    wpAny (model PySem.Challenge.rw_xm0025_01.row.prog w) (ktrTop dp un gd cn cs L a ccd cl outer) (call (.ref 93) [.none, .ref l]) Q E s := by
  revert X; k_fill; intro X
  w_on
  refine wpAny_call ?_
  k_dflt cell_enter
  k_steps
  all_goals first | (refine ret _ _ _ (by k_asm) (by first | k_asm | (refine' cb_drop ?cbN ?cbS; (case cbN => assumption); (case cbS => kcj_all))); done) | (exfalso; (rename ((_ == Str.ofString "") = true) => hE); rw [ne_empty (by assumption)] at hE; exact absurd hE (by decide)) | (exfalso; simp_all; done) | (exfalso; simp_all; omega)

set_option maxRecDepth 100000 in
set_option maxHeartbeats 8000000 in
theorem placeTold_call {w : World} {loose : List Str} {mean : ExcName → Option Value} {mg mb : Str → Option Value}
    {dp un : Nat} {gd : Option (List Code)} {cn : Str} {cs : Scope} {a : Addr} {ccd : Value} {cl : List (Str × Addr)} {outer : List Env} {A₀ : Around} {base h₀ : Heap} {L : Addr} {m : Str → Option Value} {s : Shared} {Q E : Value → Shared → Prop}
    {news : List (Addr × Obj)} {k : Int} {tk : Tok}
    (Bl : Below A₀ base outer h₀) (F : Fr h₀ L s.heap m) (X : (hd.heap_39 w.params).In h₀) (N : News h₀ L s.heap (news)) (TT : Top hd.view_39 loose mean mg mb h₀) (hk : cs.kind = .function)
    (h0 : 0 < k) (h1 : k ≤ 255)
    (hdp : dp + 4 < recursionLimit) (hu : un + 32 < cLine)
    (ret : ∀  (h' : Heap) (tk' : Nat), Fr h₀ L h' m → News h₀ L h' (news) → Q (.int k tk) { s with heap := h', toks := tk' }) :
    wpAny (model PySem.Challenge.rw_xm0025_01.row.prog w) (ktrTop dp un gd cn cs L a ccd cl outer) (call (.ref 86) [.int k tk]) Q E s := by
  revert X; k_fill; intro X
  w_on
  refine wpAny_call ?_
  k_dflt cell_enter
  k_steps
  all_goals first | (refine ret _ _ (by k_asm) (by first | k_asm | (refine' cb_drop ?cbN ?cbS; (case cbN => assumption); (case cbS => kcj_all))); done) | (exfalso; (rename ((_ == Str.ofString "") = true) => hE); rw [ne_empty (by assumption)] at hE; exact absurd hE (by decide)) | (exfalso; simp_all; done) | (exfalso; simp_all; omega)

local macro_rules | `(tactic| walk_at "call ref") => `(tactic| (k_here; k_dflt (refine' placeTold_call ?k1 ?k2 ?k3 ?k4 ?k5 ?k6 ?h0 ?h1 ?k7 ?k8 ?_; (case k1 => k_asm); (case k2 => k_asm); (case k3 => k_asm); (case k4 => k_asm); (case k5 => k_asm); (case k6 => first | exact rfl | assumption); (case h0 => omega); (case h1 => omega); (case k7 => ktr_room); (case k8 => ktr_units); k_whole; intro h9 tk9 F9 N9; (try dsimp only); (try k_fold))))
set_option maxRecDepth 100000 in
set_option maxHeartbeats 8000000 in
theorem textMid_call {w : World} {loose : List Str} {mean : ExcName → Option Value} {mg mb : Str → Option Value}
    {dp un : Nat} {gd : Option (List Code)} {cn : Str} {cs : Scope} {a : Addr} {ccd : Value} {cl : List (Str × Addr)} {outer : List Env} {A₀ : Around} {base h₀ : Heap} {L : Addr} {m : Str → Option Value} {s : Shared} {Q E : Value → Shared → Prop}
    {rest : List (Addr × Obj)} {T : Str} {tT t1 : Tok} {l : Addr} {c : Nat}
    (Bl : Below A₀ base outer h₀) (F : Fr h₀ L s.heap m) (X : (hd.heap_39 w.params).In h₀) (N : News h₀ L s.heap ((l, PySem.W.listOf #[.str T tT, .int 3 t1] c) :: rest)) (TT : Top hd.view_39 loose mean mg mb h₀) (hk : cs.kind = .function)
    (hT : T.length ≤ 255)
    (hdp : dp + 6 < recursionLimit) (hu : un + 48 < cLine)
    (ret : ∀ (t : Tok) (h' : Heap) (tk' : Nat), Fr h₀ L h' m → News h₀ L h' ((l, PySem.W.listOf #[.str T tT, .int 3 t1] c) :: rest) → Q (.str (Txt.slice T (some (3 - 1)) (some (3 - 1 + 255))) t) { s with heap := h', toks := tk' }) :
    wpAny (model PySem.Challenge.rw_xm0025_01.row.prog w) (ktrTop dp un gd cn cs L a ccd cl outer) (call (.ref 100) [.none, .ref l]) Q E s := by
  revert X; k_fill; intro X
  w_on
  refine wpAny_call ?_
  k_dflt cell_enter
  k_steps
  all_goals first | (refine ret _ _ _ (by k_asm) (by first | k_asm | (refine' cb_drop ?cbN ?cbS; (case cbN => assumption); (case cbS => kcj_all))); done) | (exfalso; (rename ((_ == Str.ofString "") = true) => hE); rw [ne_empty (by assumption)] at hE; exact absurd hE (by decide)) | (exfalso; simp_all; done) | (exfalso; simp_all; omega)

set_option maxRecDepth 100000 in
set_option maxHeartbeats 8000000 in
theorem textJoined_call {w : World} {loose : List Str} {mean : ExcName → Option Value} {mg mb : Str → Option Value}
    {dp un : Nat} {gd : Option (List Code)} {cn : Str} {cs : Scope} {a : Addr} {ccd : Value} {cl : List (Str × Addr)} {outer : List Env} {A₀ : Around} {base h₀ : Heap} {L : Addr} {m : Str → Option Value} {s : Shared} {Q E : Value → Shared → Prop}
    {news : List (Addr × Obj)} {T S : Str} {tT tS : Tok}
    (Bl : Below A₀ base outer h₀) (F : Fr h₀ L s.heap m) (X : (hd.heap_39 w.params).In h₀) (N : News h₀ L s.heap (news)) (TT : Top hd.view_39 loose mean mg mb h₀) (hk : cs.kind = .function)
    (hT : T.length + S.length ≤ 255)
    (hdp : dp + 6 < recursionLimit) (hu : un + 48 < cLine)
    (ret : ∀ (t : Tok) (h' : Heap) (tk' : Nat), Fr h₀ L h' m → News h₀ L h' (news) → Q (.str (T ++ S) t) { s with heap := h', toks := tk' }) :
    wpAny (model PySem.Challenge.rw_xm0025_01.row.prog w) (ktrTop dp un gd cn cs L a ccd cl outer) (call (.ref 114) [.str T tT, .str S tS]) Q E s := by
  revert X; k_fill; intro X
  w_on
  refine wpAny_call ?_
  k_dflt cell_enter
  k_steps
  all_goals first | (refine ret _ _ _ (by k_asm) (by first | k_asm | (refine' cb_drop ?cbN ?cbS; (case cbN => assumption); (case cbS => kcj_all))); done) | (exfalso; (rename ((_ == Str.ofString "") = true) => hE); rw [ne_empty (by assumption)] at hE; exact absurd hE (by decide)) | (exfalso; simp_all; done) | (exfalso; simp_all; omega)

set_option maxRecDepth 100000 in
set_option maxHeartbeats 8000000 in
theorem textString_call {w : World} {loose : List Str} {mean : ExcName → Option Value} {mg mb : Str → Option Value}
    {dp un : Nat} {gd : Option (List Code)} {cn : Str} {cs : Scope} {a : Addr} {ccd : Value} {cl : List (Str × Addr)} {outer : List Env} {A₀ : Around} {base h₀ : Heap} {L : Addr} {m : Str → Option Value} {s : Shared} {Q E : Value → Shared → Prop}
    {rest : List (Addr × Obj)} {T : Str} {tT t1 : Tok} {l : Addr} {c : Nat}
    (Bl : Below A₀ base outer h₀) (F : Fr h₀ L s.heap m) (X : (hd.heap_39 w.params).In h₀) (N : News h₀ L s.heap ((l, PySem.W.listOf #[.int 3 t1, .str T tT] c) :: rest)) (TT : Top hd.view_39 loose mean mg mb h₀) (hk : cs.kind = .function)
    (hT : T.length = 1)
    (hdp : dp + 4 < recursionLimit) (hu : un + 32 < cLine)
    (ret : ∀ (t : Tok) (h' : Heap) (tk' : Nat), Fr h₀ L h' m → News h₀ L h' ((l, PySem.W.listOf #[.int 3 t1, .str T tT] c) :: rest) → Q (.str (Txt.mul (Txt.item T 0) 3) t) { s with heap := h', toks := tk' }) :
    wpAny (model PySem.Challenge.rw_xm0025_01.row.prog w) (ktrTop dp un gd cn cs L a ccd cl outer) (call (.ref 107) [.none, .ref l]) Q E s := by
  revert X; k_fill; intro X
  w_on
  refine wpAny_call ?_
  k_dflt cell_enter
  k_steps
  all_goals first | (refine ret _ _ _ (by k_asm) (by first | k_asm | (refine' cb_drop ?cbN ?cbS; (case cbN => assumption); (case cbS => kcj_all))); done) | (exfalso; (rename ((_ == Str.ofString "") = true) => hE); rw [ne_empty (by assumption)] at hE; exact absurd hE (by decide)) | (exfalso; simp_all; done) | (exfalso; simp_all; omega)
end Mine
-- part D3
namespace Mine
open PySem PySem.W PyProof.Rows
def toldV (T A B C : Str) : Str := if (Txt.slice T none (some 1) == A) = true then B ++ C else if (Txt.slice T none (some 1) == B) = true then A else Txt.mul (Txt.item A 0) 3
def stepV (T A B C : Str) : Str := Txt.slice T (some (3 - 1)) (some (3 - 1 + 255)) ++ toldV T A B C
theorem joinLen1 {T B C : Str} {l u : Option Int} (hT : T.length ≤ 250) (hB : B.length = 1) (hC : C.length = 1) : (Txt.slice T l u).length + (B ++ C).length ≤ 255 := by
  have := Txt.slice_le T l u
  rw [len_append]; omega
theorem joinLen2 {T A : Str} {l u : Option Int} (hT : T.length ≤ 250) (hA : A.length = 1) : (Txt.slice T l u).length + A.length ≤ 255 := by
  have := Txt.slice_le T l u
  omega
theorem joinLen3 {T A : Str} {l u : Option Int} (hT : T.length ≤ 250) : (Txt.slice T l u).length + (Txt.mul (Txt.item A 0) 3).length ≤ 255 := by
  have := Txt.slice_le T l u
  have h3 : (Txt.mul (Txt.item A 0) 3).length = 3 := by
    show (Txt.mul (tx [_]) 3).length = 3
    rw [mul_one, tx_len]; rfl
  omega
theorem told1 {T A B C : Str} (h : (Txt.slice T none (some 1) == A) = true) : stepV T A B C = Txt.slice T (some (3 - 1)) (some (3 - 1 + 255)) ++ (B ++ C) := by
  unfold stepV toldV; rw [if_pos h]
theorem told2 {T A B C : Str} (h : (Txt.slice T none (some 1) == A) = false) (h2 : (Txt.slice T none (some 1) == B) = true) : stepV T A B C = Txt.slice T (some (3 - 1)) (some (3 - 1 + 255)) ++ A := by
  unfold stepV toldV; rw [if_neg (by rw [h]; decide), if_pos h2]
theorem told3 {T A B C : Str} (h : (Txt.slice T none (some 1) == A) = false) (h2 : (Txt.slice T none (some 1) == B) = false) : stepV T A B C = Txt.slice T (some (3 - 1)) (some (3 - 1 + 255)) ++ Txt.mul (Txt.item A 0) 3 := by
  unfold stepV toldV; rw [if_neg (by rw [h]; decide), if_neg (by rw [h2]; decide)]

local macro_rules | `(tactic| walk_at "call ref") => `(tactic| (k_here; k_dflt (refine' textJoined_call ?k1 ?k2 ?k3 ?k4 ?k5 ?k6 ?h0 ?k7 ?k8 ?_; (case k1 => k_asm); (case k2 => k_asm); (case k3 => k_asm); (case k4 => k_asm); (case k5 => k_asm); (case k6 => first | exact rfl | assumption); (case h0 => first | omega | exact joinLen1 (by assumption) (by assumption) (by assumption) | exact joinLen2 (by assumption) (by assumption) | exact joinLen3 (by assumption)); (case k7 => ktr_room); (case k8 => ktr_units); k_whole; intro t9 h9 tk9 F9 N9; (try dsimp only); (try k_fold))))
local macro_rules | `(tactic| walk_at "call ref") => `(tactic| (k_here; k_dflt (refine' textLeft_call ?k1 ?k2 ?k3 ?k4 ?k5 ?k6 ?h0 ?k7 ?k8 ?_; (case k1 => k_asm); (case k2 => k_asm); (case k3 => k_asm); (case k4 => k_asm); (case k5 => k_asm); (case k6 => first | exact rfl | assumption); (case h0 => omega); (case k7 => ktr_room); (case k8 => ktr_units); k_whole; intro t9 h9 tk9 F9 N9; (try dsimp only); (try k_fold))))
local macro_rules | `(tactic| walk_at "call ref") => `(tactic| (k_here; k_dflt (refine' textMid_call ?k1 ?k2 ?k3 ?k4 ?k5 ?k6 ?h0 ?k7 ?k8 ?_; (case k1 => k_asm); (case k2 => k_asm); (case k3 => k_asm); (case k4 => k_asm); (case k5 => k_asm); (case k6 => first | exact rfl | assumption); (case h0 => omega); (case k7 => ktr_room); (case k8 => ktr_units); k_whole; intro t9 h9 tk9 F9 N9; (try dsimp only); (try k_fold))))
local macro_rules | `(tactic| walk_at "call ref") => `(tactic| (k_here; k_dflt (refine' textString_call ?k1 ?k2 ?k3 ?k4 ?k5 ?k6 ?h0 ?k7 ?k8 ?_; (case k1 => k_asm); (case k2 => k_asm); (case k3 => k_asm); (case k4 => k_asm); (case k5 => k_asm); (case k6 => first | exact rfl | assumption); (case h0 => omega); (case k7 => ktr_room); (case k8 => ktr_units); k_whole; intro t9 h9 tk9 F9 N9; (try dsimp only); (try k_fold))))
set_option maxRecDepth 100000 in
set_option maxHeartbeats 8000000 in
theorem step_call {w : World} {loose : List Str} {mean : ExcName → Option Value} {mg mb : Str → Option Value}
    {dp un : Nat} {gd : Option (List Code)} {cn : Str} {cs : Scope} {a : Addr} {ccd : Value} {cl : List (Str × Addr)} {outer : List Env} {A₀ : Around} {base h₀ : Heap} {L : Addr} {m : Str → Option Value} {s : Shared} {Q E : Value → Shared → Prop}
    {sg : Addr} {T A B C : Str} {tT ta tb tc : Tok} {c : Nat} {rest : List (Addr × Obj)}
    (Bl : Below A₀ base outer h₀) (F : Fr h₀ L s.heap m) (X : (hd.heap_39 w.params).In h₀) (N : News h₀ L s.heap ((sg, PySem.W.listOf #[.str A ta, .str B tb, .str C tc] c) :: rest)) (TT : Top hd.view_39 loose mean mg mb h₀) (hk : cs.kind = .function)
    (hT : T.length ≤ 250) (hA : A.length = 1) (hB : B.length = 1) (hC : C.length = 1)
    (hdp : dp + 9 < recursionLimit) (hu : un + 72 < cLine)
    (ret : ∀ (t : Tok) (h' : Heap) (tk' : Nat), Fr h₀ L h' m → News h₀ L h' ((sg, PySem.W.listOf #[.str A ta, .str B tb, .str C tc] c) :: rest) → Q (.str (stepV T A B C) t) { s with heap := h', toks := tk' }) :
    wpAny (model PySem.Challenge.rw_xm0025_01.row.prog w) (ktrTop dp un gd cn cs L a ccd cl outer) (call (.ref 128) [.str T tT, .ref sg]) Q E s := by
  revert X; k_fill; intro X
  w_on
  refine wpAny_call ?_
  k_dflt cell_enter
  k_steps
  · rw [told1 (by assumption)] at ret
    refine ret _ _ _ (by k_asm) (by first | k_asm | (refine' cb_drop ?cbN ?cbS; (case cbN => assumption); (case cbS => kcj_all)))
  · rw [told2 (by assumption) (by assumption)] at ret
    refine ret _ _ _ (by k_asm) (by first | k_asm | (refine' cb_drop ?cbN ?cbS; (case cbN => assumption); (case cbS => kcj_all)))
  · rw [told3 (by assumption) (by assumption)] at ret
    refine ret _ _ _ (by k_asm) (by first | k_asm | (refine' cb_drop ?cbN ?cbS; (case cbN => assumption); (case cbS => kcj_all)))
end Mine
-- part L2
namespace Mine
open PySem PySem.Builtin PySem.Builtin.Str PyProof.Rows
theorem mul_len_le {x : Str} {n : Int} (hx : x.length ≤ 2) (hn : n ≤ 100) : (Txt.mul x n).length ≤ 200 := by
  rw [← tx_list x, mul_tx, tx_len]
  have h1 : x.cps.toList.length ≤ 2 := by
    have : x.cps.toList.length = x.length := by simp [Str.length]
    omega
  have h3 : n.toNat ≤ 100 := by omega
  have h4 : ∀ k : Nat, (List.replicate k x.cps.toList).flatten.length ≤ 2 * k := by
    intro k
    induction k with
    | zero => simp
    | succ k ih => rw [List.replicate_succ, List.flatten_cons, List.length_append]; omega
  have := h4 n.toNat
  omega
section
variable {prog : Program} {w : World} {A : Around} {E : Value → Shared → Prop} {s : Shared} {x y : Str} {t u : Tok} {n : Int} {Q : Value → Shared → Prop}
theorem mul_any (hx : x.length ≤ 2) (hn : -100 ≤ n ∧ n ≤ 100) (h : ∀ t' k, (Txt.mul x n).length ≤ 200 → Q (.str (Txt.mul x n) t') { s with toks := k }) : wpAny (model prog w) A (binaryOp .Mult (.str x t) (.int n u)) Q E s := by
  refine SB.mul ⟨?_, ?_, ?_⟩ fun t' k => h t' k (mul_len_le hx hn.2)
  · have h1 : ¬ n < -(2 ^ 63 : Int) := by omega
    have h2 : ¬ n ≥ (2 ^ 63 : Int) := by omega
    rw [decide_eq_false h1, decide_eq_false h2]; rfl
  · intro h1 _
    have h2 : (2 : Int) ≤ (2 ^ 63 - 1) / n := Int.le_ediv_of_mul_le (by omega) (by omega)
    omega
  · intro h1 _
    have h3 : n.toNat ≤ 100 := by omega
    have h4 : x.length * n.toNat ≤ 2 * 100 := Nat.mul_le_mul hx h3
    unfold tooLong
    have e : sizeLine = 2 ^ 24 := rfl
    exact decide_eq_false (by omega)
theorem add_any (hxy : x.length + y.length ≤ 1000) (h : ∀ t' k, (x ++ y).length = x.length + y.length → Q (.str (x ++ y) t') { s with toks := k }) : wpAny (model prog w) A (binaryOp .Add (.str x t) (.str y u)) Q E s :=
  add_str (fun t' k => h t' k Array.size_append) (by
    have e : sizeLine = 2 ^ 24 := rfl
    omega)
end
end Mine
-- part D4
namespace Mine
open PySem PySem.W PyProof.Rows
def dueV (M D : Int) (A B C : Str) : Str :=
  if D ≤ M.fdiv 2 then Txt.mul A (M - 2 * D) ++ Txt.mul (B ++ C) D
  else if M.fmod 2 = 0 then Txt.mul (B ++ C) (M - D) ++ Txt.mul A (D - M.fdiv 2)
  else if D - M.fdiv 2 - 1 ≤ M.fdiv 2 then C ++ Txt.mul (B ++ C) (M.fdiv 2 - (D - M.fdiv 2 - 1)) ++ Txt.mul A (3 * (D - M.fdiv 2 - 1))
  else Txt.mul A ((3 * M + 1).fdiv 2)
theorem due1 {M D : Int} {A B C : Str} (h : D ≤ M.fdiv 2) : dueV M D A B C = Txt.mul A (M - 2 * D) ++ Txt.mul (B ++ C) D := by unfold dueV; rw [if_pos h]
theorem due2 {M D : Int} {A B C : Str} (h : ¬ D ≤ M.fdiv 2) (h2 : M.fmod 2 = 0) : dueV M D A B C = Txt.mul (B ++ C) (M - D) ++ Txt.mul A (D - M.fdiv 2) := by unfold dueV; rw [if_neg h, if_pos h2]
theorem due3 {M D : Int} {A B C : Str} (h : ¬ D ≤ M.fdiv 2) (h2 : M.fmod 2 ≠ 0) (h3 : D - M.fdiv 2 - 1 ≤ M.fdiv 2) : dueV M D A B C = C ++ Txt.mul (B ++ C) (M.fdiv 2 - (D - M.fdiv 2 - 1)) ++ Txt.mul A (3 * (D - M.fdiv 2 - 1)) := by unfold dueV; rw [if_neg h, if_neg h2, if_pos h3]
theorem due4 {M D : Int} {A B C : Str} (h : ¬ D ≤ M.fdiv 2) (h2 : M.fmod 2 ≠ 0) (h3 : ¬ D - M.fdiv 2 - 1 ≤ M.fdiv 2) : dueV M D A B C = Txt.mul A ((3 * M + 1).fdiv 2) := by unfold dueV; rw [if_neg h, if_neg h2, if_neg h3]
local macro_rules | `(tactic| walk_at "binaryOp Mult str int") => `(tactic| (k_here; (refine mul_any ?hx ?hn ?_; (case hx => omega); (case hn => first | omega | (simp only [decide_eq_true_eq, decide_eq_false_iff_not] at *; omega))); intro _ _ _))
local macro_rules | `(tactic| walk_at "binaryOp Add str str") => `(tactic| (k_here; (refine add_any ?hx ?_; (case hx => omega)); intro _ _ _))

set_option maxRecDepth 100000 in
set_option maxHeartbeats 8000000 in
theorem due_call {w : World} {loose : List Str} {mean : ExcName → Option Value} {mg mb : Str → Option Value}
    {dp un : Nat} {gd : Option (List Code)} {cn : Str} {cs : Scope} {a : Addr} {ccd : Value} {cl : List (Str × Addr)} {outer : List Env} {A₀ : Around} {base h₀ : Heap} {L : Addr} {m : Str → Option Value} {s : Shared} {Q E : Value → Shared → Prop}
    {sg : Addr} {A B C : Str} {M D : Int} {tM tD ta tb tc : Tok} {c : Nat} {rest : List (Addr × Obj)}
    (Bl : Below A₀ base outer h₀) (F : Fr h₀ L s.heap m) (X : (hd.heap_39 w.params).In h₀) (N : News h₀ L s.heap ((sg, PySem.W.listOf #[.str A ta, .str B tb, .str C tc] c) :: rest)) (TT : Top hd.view_39 loose mean mg mb h₀) (hk : cs.kind = .function)
    (hM : 1 ≤ M) (hM1 : M ≤ 30) (hD : 1 ≤ D) (hD1 : D ≤ 31) (hA : A.length = 1) (hB : B.length = 1) (hC : C.length = 1) (hf : 2 * M.fdiv 2 ≤ M ∧ M ≤ 2 * M.fdiv 2 + 1) (hg : 2 * (3 * M + 1).fdiv 2 ≤ 3 * M + 1 ∧ 3 * M + 1 ≤ 2 * (3 * M + 1).fdiv 2 + 1)
    (hdp : dp + 5 < recursionLimit) (hu : un + 40 < cLine)
    (ret : ∀ (t : Tok) (h' : Heap) (tk' : Nat), Fr h₀ L h' m → News h₀ L h' ((sg, PySem.W.listOf #[.str A ta, .str B tb, .str C tc] c) :: rest) → Q (.str (dueV M D A B C) t) { s with heap := h', toks := tk' }) :
    wpAny (model PySem.Challenge.rw_xm0025_01.row.prog w) (ktrTop dp un gd cn cs L a ccd cl outer) (call (.ref 135) [.int M tM, .int D tD, .ref sg]) Q E s := by
  revert X; k_fill; intro X
  w_on
  refine wpAny_call ?_
  k_dflt cell_enter
  k_steps
  · rw [due1 (by assumption)] at ret
    refine ret _ _ _ (by k_asm) (by first | k_asm | (refine' cb_drop ?cbN ?cbS; (case cbN => assumption); (case cbS => kcj_all)))
  · rw [due2 (by assumption) (by assumption)] at ret
    refine ret _ _ _ (by k_asm) (by first | k_asm | (refine' cb_drop ?cbN ?cbS; (case cbN => assumption); (case cbS => kcj_all)))
  · rw [due3 (by assumption) (by assumption) (by assumption)] at ret
    refine ret _ _ _ (by k_asm) (by first | k_asm | (refine' cb_drop ?cbN ?cbS; (case cbN => assumption); (case cbS => kcj_all)))
  · rw [due4 (by assumption) (by assumption) (by assumption)] at ret
    refine ret _ _ _ (by k_asm) (by first | k_asm | (refine' cb_drop ?cbN ?cbS; (case cbN => assumption); (case cbS => kcj_all)))
end Mine
-- part L3
namespace Mine

def prs (b c : Nat) (k : Nat) : List Nat := (List.replicate k [b, c]).flatten
theorem prs_zero (b c : Nat) : prs b c 0 = [] := rfl
theorem prs_succ (b c k : Nat) : prs b c (k + 1) = b :: c :: prs b c k := by simp [prs, List.replicate_succ]
theorem prs_snoc (b c k : Nat) : prs b c k ++ [b, c] = prs b c (k + 1) := by
  induction k with
  | zero => rfl
  | succ k ih => rw [prs_succ, List.cons_append, List.cons_append, ih, prs_succ b c (k + 1)]
theorem prs_len (b c k : Nat) : (prs b c k).length = 2 * k := by
  induction k with
  | zero => rfl
  | succ k ih => rw [prs_succ, List.length_cons, List.length_cons, ih]; omega
theorem rep_snoc (a k : Nat) : List.replicate k a ++ [a] = List.replicate (k + 1) a := by rw [List.replicate_succ']
def stepL (xs : List Nat) (a b c : Nat) : List Nat := xs.drop 2 ++ (if xs.take 1 = [a] then [b, c] else if xs.take 1 = [b] then [a] else [a, a, a])
def dueL (m d a b c : Nat) : List Nat :=
  if d ≤ m / 2 then List.replicate (m - 2 * d) a ++ prs b c d
  else if m % 2 = 0 then prs b c (m - d) ++ List.replicate (d - m / 2) a
  else if d - m / 2 - 1 ≤ m / 2 then c :: prs b c (m / 2 - (d - m / 2 - 1)) ++ List.replicate (3 * (d - m / 2 - 1)) a
  else List.replicate ((3 * m + 1) / 2) a
theorem step_a (x : Nat) (xs : List Nat) (a b c : Nat) : stepL (a :: x :: xs) a b c = xs ++ [b, c] := by simp [stepL]
theorem step_b (x : Nat) (xs : List Nat) (a b c : Nat) (h : a ≠ b) : stepL (b :: x :: xs) a b c = xs ++ [a] := by simp [stepL, Ne.symm h]
theorem step_c (x : Nat) (xs : List Nat) (a b c : Nat) (h : a ≠ c) (h2 : b ≠ c) : stepL (c :: x :: xs) a b c = xs ++ [a, a, a] := by simp [stepL, Ne.symm h, Ne.symm h2]
theorem due_zero (m a b c : Nat) : dueL m 0 a b c = List.replicate m a := by simp [dueL, prs_zero]
theorem step_due {m d a b c : Nat} (hab : a ≠ b) (hac : a ≠ c) (hbc : b ≠ c) (hm : 2 ≤ m) (hd : d < m + m % 2) : stepL (dueL m d a b c) a b c = dueL m (d + 1) a b c := by
  by_cases h1 : d + 1 ≤ m / 2
  · rw [dueL, if_pos (by omega), dueL, if_pos h1]
    obtain ⟨k, hk⟩ : ∃ k, m - 2 * d = k + 2 := ⟨m - 2 * d - 2, by omega⟩
    rw [hk, List.replicate_succ, List.replicate_succ, List.cons_append, List.cons_append, step_a, List.append_assoc, prs_snoc]
    rw [show m - 2 * (d + 1) = k by omega]
  · by_cases h2 : m % 2 = 0
    · have hR : dueL m d a b c = prs b c (m - d) ++ List.replicate (d - m / 2) a := by
        by_cases h3 : d ≤ m / 2
        · have : d = m / 2 := by omega
          rw [dueL, if_pos h3, show m - 2 * d = 0 by omega, show d - m / 2 = 0 by omega, show m - d = d by omega]
          simp
        · rw [dueL, if_neg h3, if_pos h2]
      have hS : dueL m (d + 1) a b c = prs b c (m - (d + 1)) ++ List.replicate (d + 1 - m / 2) a := by rw [dueL, if_neg h1, if_pos h2]
      rw [hS]
      rw [hR]
      obtain ⟨k, hk⟩ : ∃ k, m - d = k + 1 := ⟨m - d - 1, by omega⟩
      rw [hk, prs_succ, List.cons_append, List.cons_append, step_b _ _ _ _ _ hab, List.append_assoc, rep_snoc]
      rw [show m - (d + 1) = k by omega, show d + 1 - m / 2 = d - m / 2 + 1 by omega]
    · by_cases h3 : d ≤ m / 2
      · rw [dueL, if_pos h3, dueL, if_neg h1, if_neg h2, if_pos (by omega)]
        have hd2 : d = m / 2 := by omega
        obtain ⟨k, hk⟩ : ∃ k, d = k + 1 := ⟨d - 1, by omega⟩
        rw [show m - 2 * d = 1 by omega, show d + 1 - m / 2 - 1 = 0 by omega, show m / 2 - 0 = d by omega, hk, prs_succ]
        show stepL (a :: b :: c :: prs b c k) a b c = _
        rw [step_a, List.cons_append, prs_snoc, prs_succ]
        simp
      · rw [dueL, if_neg h3, if_neg h2, if_pos (by omega)]
        by_cases h4 : d - m / 2 - 1 = m / 2
        · rw [dueL, if_neg h1, if_neg h2, if_neg (by omega)]
          obtain ⟨k, hk⟩ : ∃ k, 3 * (d - m / 2 - 1) = k + 1 := ⟨3 * (d - m / 2 - 1) - 1, by omega⟩
          rw [show m / 2 - (d - m / 2 - 1) = 0 by omega, prs_zero, hk, List.replicate_succ]
          show stepL (c :: a :: List.replicate k a) a b c = _
          rw [step_c _ _ _ _ _ hac hbc, show (3 * m + 1) / 2 = k + 3 by omega]
          show List.replicate k a ++ List.replicate 3 a = _
          rw [List.replicate_append_replicate]
        · rw [dueL, if_neg h1, if_neg h2, if_pos (by omega)]
          obtain ⟨k, hk⟩ : ∃ k, m / 2 - (d - m / 2 - 1) = k + 1 := ⟨m / 2 - (d - m / 2 - 1) - 1, by omega⟩
          rw [hk, prs_succ]
          show stepL (c :: b :: c :: (prs b c k ++ List.replicate (3 * (d - m / 2 - 1)) a)) a b c = _
          rw [step_c _ _ _ _ _ hac hbc, show m / 2 - (d + 1 - m / 2 - 1) = k by omega, show 3 * (d + 1 - m / 2 - 1) = 3 * (d - m / 2 - 1) + 3 by omega, ← List.replicate_append_replicate]
          show c :: (prs b c k ++ List.replicate (3 * (d - m / 2 - 1)) a) ++ List.replicate 3 a = _
          simp
def nextM (m : Nat) : Nat := if m % 2 = 0 then m / 2 else (3 * m + 1) / 2
theorem due_last {m a b c : Nat} (hm : 2 ≤ m) : dueL m (m + m % 2) a b c = List.replicate (nextM m) a := by
  unfold nextM
  by_cases h2 : m % 2 = 0
  · rw [dueL, if_neg (by omega), if_pos h2, if_pos h2, show m - (m + m % 2) = 0 by omega, prs_zero, show m + m % 2 - m / 2 = m / 2 by omega]; rfl
  · rw [dueL, if_neg (by omega), if_neg h2, if_neg h2, if_neg (by omega)]
theorem due_len (m d a b c : Nat) (hm : m ≤ 30) (hd : d ≤ 31) : (dueL m d a b c).length ≤ 200 := by
  unfold dueL
  split
  · simp [prs_len]; omega
  · split
    · simp [prs_len]; omega
    · split
      · simp [prs_len]; omega
      · simp; omega
end Mine
-- part R1
namespace Mine
open PySem PySem.W PyProof.Rows PySem.Calls PyProof.V PySem.Spec
section
variable {prog : Program} {w : World} {A : Around} {E : Value → Shared → Prop} {s : Shared} {env : Env} {h₀ : Heap} {x : Str} {body : List Stmt} {Q : Flow → Shared → Prop}
def REnd {σ : Type} (h₀ : Heap) (L : Addr) (ps : σ → List (Str × Value)) (Led : σ → List (Addr × Obj)) (P Pout : σ → Prop) (I : Addr) (oI : Obj) (s₁ : Shared) (f : Flow) (s₂ : Shared) : Prop :=
  match f with
  | .ret _ => False
  | .brk => ∃ c h' tk m', s₂ = { s₁ with heap := h', toks := tk } ∧ Fr h₀ L h' m' ∧ News h₀ L h' (Led c) ∧ (∀ p ∈ ps c, m' p.1 = some p.2) ∧ Pout c
  | _ => ∃ c h' tk m', s₂ = { s₁ with heap := h', toks := tk } ∧ Fr h₀ L h' m' ∧ News h₀ L h' ((I, oI) :: Led c) ∧ (∀ p ∈ Led c, p.1 ≠ I) ∧ (∀ p ∈ ps c, m' p.1 = some p.2) ∧ P c
theorem kstB_self {m : Str → Option Value} : ∀ {ps : List (Str × Value)}, (∀ p ∈ ps, m p.1 = some p.2) → kstB m ps = m
  | [], _ => rfl
  | p :: r, h => by
    funext z
    show (if z = p.1 then some p.2 else kstB m r z) = m z
    by_cases e : z = p.1
    · rw [if_pos e, e]; exact (h p (.head _)).symm
    · rw [if_neg e, kstB_self fun q hq => h q (.tail _ hq)]
theorem rloop {σ : Type} {r : Addr} {a₀ b₀ : Int} {t₀ u₀ v₀ : Tok} {n : Nat} {m₀ : Str → Option Value} {news : List (Addr × Obj)} (ps : σ → List (Str × Value)) (Led : σ → List (Addr × Obj)) (P : Nat → σ → Prop) (Pout : σ → Prop) (c₀ : σ)
    (hh : A.handled = none) (hr : IsRange s.heap r a₀ b₀ 1 t₀ u₀ v₀) (hsmall : Builtin.Range.small a₀ b₀ 1 = true) (hn : Builtin.Range.rangeSize a₀ b₀ 1 = (n : Int)) (F : Fr h₀ env.locals s.heap m₀) (N : News h₀ env.locals s.heap news) (hL : ∀ p ∈ Led c₀, p ∈ news) (hk : ∀ p ∈ ps c₀, m₀ p.1 = some p.2) (hp : P 0 c₀)
    (hout : ∀ c, P n c → Pout c)
    (turn : ∀ (c : σ) (i : Nat) (t : Tok) (u : Str → Option Value) (h : Heap) (tk : Nat) (I : Addr) (oI : Obj), i < n → P i c → oI.cls = .type "range_iterator" → (∀ p ∈ Led c, p.1 ≠ I) →
      Fr h₀ env.locals h (fun y => if y = x then some (.int (a₀ + (i : Int)) t) else kstB u (ps c) y) → News h₀ env.locals h ((I, oI) :: Led c) →
      wpAny (model prog w) A (execs body env) (REnd h₀ env.locals ps Led (P (i + 1)) Pout I oI { s with heap := h, toks := tk }) E { s with heap := h, toks := tk })
    (cont : ∀ (c : σ) (u : Str → Option Value) (h : Heap) (tk : Nat), Pout c → Fr h₀ env.locals h (kstB u (ps c)) → News h₀ env.locals h (Led c) → Q .next { s with heap := h, toks := tk }) :
    wpAny (model prog w) A (pyIter (.ref r)) (fun it s₂ => LoopAtV prog w A h₀ env x body Q E it s₂) E s := by
  refine wpAny_pyIter_range hr hsmall ?_
  have W : Walks prog w A s.heap.objs.size [s.heap.objs.size] [s.heap.objs.size] n (fun i v => i < n ∧ ∃ t, v = .int (a₀ + i * 1) t)
      (fun i h => IsRangeIter h s.heap.objs.size (a₀ + (i : Nat) * 1) ((n : Int) - (i : Nat)) 1) := (Walks.range hh _ a₀ 1 n).bound
  refine ⟨s.heap.objs.size, [s.heap.objs.size], [s.heap.objs.size], n, _, _, m₀, Led c₀, fun i m nw => ∃ c, nw = Led c ∧ (∀ p ∈ ps c, m p.1 = some p.2) ∧ P i c, rfl, W, ?_, ?_, ?_, (by show IsRangeIter _ _ _ _ _; rw [hn]; simpa using Heap.get?_push_size _ rfl), F.push _, (fun p hp => ⟨Heap.get?_push_of_some _ (N p (hL p hp)).1, (N p (hL p hp)).2⟩), ⟨c₀, rfl, hk, hp⟩, ?_, ?_⟩
  · intro hm
    exact absurd F.ns.lt ((List.mem_singleton.mp hm) ▸ Nat.lt_irrefl _)
  · intro b hb
    rw [List.mem_singleton.mp hb]
    exact next_is_new F
  · intro p hp hI
    exact absurd (Heap.lt_size (N p (hL p hp)).1) ((List.mem_singleton.mp hI) ▸ Nat.lt_irrefl _)
  · rintro i v m₁ news₁ s₁ own ⟨h, tk, rfl⟩ hi ⟨_, t, rfl⟩ ⟨c, rfl, hps, hP⟩ hoff hown hget hmem hst F₁ N₁
    obtain ⟨oI, hst', hcls⟩ : ∃ oI : Obj, h.get? s.heap.objs.size = some oI ∧ oI.cls = .type "range_iterator" := ⟨_, hst, rfl⟩
    have hin := hmem s.heap.objs.size (by simp) (next_is_new F) _ hst'
    have hI : ∀ p ∈ Led c, p.1 ≠ s.heap.objs.size := fun p hp e => hoff p hp (by simp [e])
    have e1 : a₀ + (i : Int) * 1 = a₀ + (i : Int) := by omega
    have em : (fun y => if y = x then some (Value.int (a₀ + (i : Int) * 1) t) else m₁ y) = fun y => if y = x then some (Value.int (a₀ + (i : Int)) t) else kstB m₁ (ps c) y := by
      rw [e1, kstB_self hps]
    rw [em] at F₁
    refine wpAny_mono (turn c i t m₁ h tk s.heap.objs.size oI hi hP hcls hI F₁ fun p hp => ?_) (fun f s₂ q => ?_) fun _ _ e => e
    · rcases List.mem_cons.mp hp with rfl | hp
      · exact N₁ _ (List.mem_append.mpr (.inl hin))
      · exact N₁ _ (List.mem_append.mpr (.inr hp))
    · have fin : (∃ c h' tk' m', s₂ = { ({ s with heap := h, toks := tk } : Shared) with heap := h', toks := tk' } ∧ Fr h₀ env.locals h' m' ∧ News h₀ env.locals h' ((s.heap.objs.size, oI) :: Led c) ∧ (∀ p ∈ Led c, p.1 ≠ s.heap.objs.size) ∧ (∀ p ∈ ps c, m' p.1 = some p.2) ∧ P (i + 1) c) →
          LoopStepU h₀ env.locals [s.heap.objs.size] own (fun m nw => ∃ c, nw = Led c ∧ (∀ p ∈ ps c, m p.1 = some p.2) ∧ P (i + 1) c) { s with heap := h, toks := tk } .next s₂ := by
        rintro ⟨c', h', tk', m', rfl, F', N', hne, hps', hP'⟩
        refine ⟨rfl, h', tk', m', Led c', rfl, F', fun p hp => ?_, fun p hp hI => hne p hp (List.mem_singleton.mp hI), c', rfl, hps', hP'⟩
        rcases List.mem_append.mp hp with ho | ho
        · have h1 := List.mem_singleton.mp (hown p ho)
          have h2 := hget p ho
          rw [h1] at h2
          have h3 : h.get? s.heap.objs.size = some p.2 := h2
          rw [hst'] at h3
          have : p = (s.heap.objs.size, p.2) := by rw [← h1]
          rw [this, ← Option.some.inj h3]
          exact N' _ (.head _)
        · exact N' _ (.tail _ ho)
      cases f with
      | ret v => exact False.elim q
      | brk =>
        obtain ⟨c', h', tk', m', rfl, F', N', hps', hP'⟩ := q
        exact cont c' m' h' tk' hP' (by rw [kstB_self hps']; exact F') N'
      | next => exact .next (fin q)
      | cont => exact .cont (fin q)
  · rintro h' tk m' news' F' N' _ ⟨c, rfl, hps, hP⟩
    exact cont c m' h' tk (hout c hP) (by rw [kstB_self hps]; exact F') N'
end
end Mine
-- part U1
namespace Mine
open PySem PySem.W PyProof.Rows
theorem fdiv2 (m : Nat) : (m : Int).fdiv 2 = ((m / 2 : Nat) : Int) := by rw [Int.fdiv_eq_ediv_of_nonneg _ (by decide)]; rfl
theorem fmod2 (m : Nat) : (m : Int).fmod 2 = ((m % 2 : Nat) : Int) := by rw [Int.fmod_eq_emod_of_nonneg _ (by decide)]; rfl
theorem stepV_tx (xs : List Nat) (a b c : Nat) (h : xs.length ≤ 250) : stepV (tx xs) (tx [a]) (tx [b]) (tx [c]) = tx (stepL xs a b c) := by
  unfold stepV toldV stepL
  rw [slice_tail xs (by omega), slice_head, tx_eq_iff, tx_eq_iff, tx_append, item_zero, mul_one]
  simp only [decide_eq_true_eq]
  split
  · show tx (xs.drop 2) ++ Str.append (tx [b]) (tx [c]) = _
    have e : Str.append (tx [b]) (tx [c]) = tx [b, c] := tx_append [b] [c]
    rw [e, tx_append]
  · split
    · rw [tx_append]
    · rw [tx_append]; rfl
theorem tx_one (a : Nat) : (tx [a]).length = 1 := tx_len _
theorem mul_prs (b c : Nat) (n : Int) : Txt.mul (tx [b] ++ tx [c]) n = tx (prs b c n.toNat) := by
  rw [tx_append]
  show Txt.mul (tx [b, c]) n = _
  rw [mul_tx]; rfl
theorem dueV_tx (m d a b c : Nat) (hd : d ≤ m + 1) : dueV (m : Int) (d : Int) (tx [a]) (tx [b]) (tx [c]) = tx (dueL m d a b c) := by
  unfold dueV dueL
  rw [fmod2, show (3 * (m : Int) + 1) = ((3 * m + 1 : Nat) : Int) by omega, fdiv2, fdiv2]
  simp only [mul_prs, mul_one]
  by_cases h1 : d ≤ m / 2
  · rw [if_pos (by omega), if_pos h1, tx_append]
    congr 3 <;> omega
  · rw [if_neg (by omega), if_neg h1]
    by_cases h2 : m % 2 = 0
    · rw [if_pos (by omega), if_pos h2, tx_append]
      congr 3 <;> omega
    · rw [if_neg (by omega), if_neg h2]
      by_cases h3 : d - m / 2 - 1 ≤ m / 2
      · rw [if_pos (by omega), if_pos h3, tx_append, tx_append]
        have e1 : (((m / 2 : Nat) : Int) - ((d : Int) - ((m / 2 : Nat) : Int) - 1)).toNat = m / 2 - (d - m / 2 - 1) := by omega
        have e2 : (3 * ((d : Int) - ((m / 2 : Nat) : Int) - 1)).toNat = 3 * (d - m / 2 - 1) := by omega
        rw [e1, e2]; rfl
      · rw [if_neg (by omega), if_neg h3]
        congr 2
section
variable {w : World} {loose : List Str} {mean : ExcName → Option Value} {mg mb : Str → Option Value}
    {dp un : Nat} {gd : Option (List Code)} {cn : Str} {cs : Scope} {ad : Addr} {ccd : Value} {cl : List (Str × Addr)} {outer : List Env} {A₀ : Around} {base h₀ : Heap} {L : Addr} {m : Str → Option Value} {s : Shared} {Q E : Value → Shared → Prop}
    {sg : Addr} {a b c : Nat} {ta tb tc : Tok} {cc : Nat} {news : List (Addr × Obj)}
theorem step_use {xs ys : List Nat} {tT : Tok}
    (Bl : Below A₀ base outer h₀) (F : Fr h₀ L s.heap m) (X : (hd.heap_39 w.params).In h₀) (N : News h₀ L s.heap news) (TT : Top hd.view_39 loose mean mg mb h₀) (hk : cs.kind = .function)
    (hsg : (sg, PySem.W.listOf #[.str (tx [a]) ta, .str (tx [b]) tb, .str (tx [c]) tc] cc) ∈ news)
    (hdp : dp + 9 < recursionLimit) (hu : un + 72 < cLine) (hl : xs.length ≤ 250) (hs : stepL xs a b c = ys)
    (ret : ∀ (t : Tok) (h' : Heap) (tk' : Nat), Fr h₀ L h' m → News h₀ L h' news → Q (.str (tx ys) t) { s with heap := h', toks := tk' }) :
    wpAny (model PySem.Challenge.rw_xm0025_01.row.prog w) (ktrTop dp un gd cn cs L ad ccd cl outer) (call (.ref 128) [.str (tx xs) tT, .ref sg]) Q E s := by
  refine step_call (rest := news) (A := tx [a]) (B := tx [b]) (C := tx [c]) (ta := ta) (tb := tb) (tc := tc) (c := cc) Bl F X (fun p hp => ?_) TT hk (by rw [tx_len]; exact hl) (tx_one _) (tx_one _) (tx_one _) hdp hu fun t h' tk' F' N' => ?_
  · rcases List.mem_cons.mp hp with rfl | hp
    · exact N _ hsg
    · exact N p hp
  · rw [stepV_tx xs a b c hl, hs]
    exact ret t h' tk' F' fun p hp => N' p (.tail _ hp)
theorem due_use {M D : Int} {mm d : Nat} {tM tD : Tok}
    (Bl : Below A₀ base outer h₀) (F : Fr h₀ L s.heap m) (X : (hd.heap_39 w.params).In h₀) (N : News h₀ L s.heap news) (TT : Top hd.view_39 loose mean mg mb h₀) (hk : cs.kind = .function)
    (hsg : (sg, PySem.W.listOf #[.str (tx [a]) ta, .str (tx [b]) tb, .str (tx [c]) tc] cc) ∈ news)
    (hdp : dp + 5 < recursionLimit) (hu : un + 40 < cLine) (hM : M = (mm : Int)) (hD : D = (d : Int)) (hm0 : 1 ≤ mm) (hm1 : mm ≤ 30) (hd0 : 1 ≤ d) (hd1 : d ≤ mm + 1)
    (ret : ∀ (t : Tok) (h' : Heap) (tk' : Nat), Fr h₀ L h' m → News h₀ L h' news → Q (.str (tx (dueL mm d a b c)) t) { s with heap := h', toks := tk' }) :
    wpAny (model PySem.Challenge.rw_xm0025_01.row.prog w) (ktrTop dp un gd cn cs L ad ccd cl outer) (call (.ref 135) [.int M tM, .int D tD, .ref sg]) Q E s := by
  subst hM hD
  refine due_call (rest := news) (A := tx [a]) (B := tx [b]) (C := tx [c]) (ta := ta) (tb := tb) (tc := tc) (c := cc) Bl F X (fun p hp => ?_) TT hk (by omega) (by omega) (by omega) (by omega) (tx_one _) (tx_one _) (tx_one _) ?_ ?_ hdp hu fun t h' tk' F' N' => ?_
  · rcases List.mem_cons.mp hp with rfl | hp
    · exact N _ hsg
    · exact N p hp
  · rw [fdiv2]; omega
  · rw [show (3 * (mm : Int) + 1) = ((3 * mm + 1 : Nat) : Int) by omega, fdiv2]; omega
  · rw [dueV_tx mm d a b c hd1]
    exact ret t h' tk' F' fun p hp => N' p (.tail _ hp)
end
section
variable {prog : Program} {w : World} {A : Around} {E : Value → Shared → Prop} {s : Shared} {x y : Str} {t u : Tok} {Q : Value → Shared → Prop}
theorem ne_same (hxy : x = y) (h : Q (.bool false) s) : wpAny (model prog w) A (compareOp .NotEq (.str x t) (.str y u)) Q E s := by
  subst hxy
  exact ne_str (by rw [bne_self_eq_false]; exact h)
theorem mul_tx1 {a : Nat} {n : Int} {k : Nat} (hn : n = (k : Int)) (hk : k ≤ 100) (h : ∀ t' q, Q (.str (tx (List.replicate k a)) t') { s with toks := q }) : wpAny (model prog w) A (binaryOp .Mult (.str (tx [a]) t) (.int n u)) Q E s := by
  subst hn
  refine mul_any (by rw [tx_one]; decide) ⟨by omega, by omega⟩ fun t' q _ => ?_
  rw [mul_one]; exact h t' q
end
def itM (m i : Nat) : Nat := Nat.repeat nextM i m
theorem itM_ok {m i : Nat} (h0 : 1 ≤ m) (h1 : m ≤ 9) (hi : i ≤ 14) : 1 ≤ itM m i ∧ itM m i ≤ 26 := by
  have : ∀ m : Fin 10, 1 ≤ m.1 → ∀ i : Fin 15, 1 ≤ itM m.1 i.1 ∧ itM m.1 i.1 ≤ 26 := by decide
  exact this ⟨m, by omega⟩ h0 ⟨i, by omega⟩
theorem itM_end {m : Nat} (h0 : 1 ≤ m) (h1 : m ≤ 9) : ∃ j, j < 14 ∧ itM m j = 1 := by
  have : ∀ m : Fin 10, 1 ≤ m.1 → ∃ j : Fin 14, itM m.1 j.1 = 1 := by decide
  obtain ⟨j, hj⟩ := this ⟨m, by omega⟩ h0
  exact ⟨j.1, j.2, hj⟩
end Mine
-- part U2
namespace Mine
open PySem PySem.W PyProof.Rows
theorem len_take (ns : List Int) : (ns.take 11).length ≤ 11 := by rw [List.length_take]; omega
theorem prep {h₀ : Heap} {L : Addr} {h : Heap} {mB : Str → Option Value} {n x1 x2 x3 : Int} {tT tM t1 t2 t3 : Tok} {D : Addr} {rest : List (Addr × Obj)}
    (F : Fr h₀ L h (fun y => if y = Str.ofString "text" then some (.str (Txt.mul ⟨#[x1.toNat]⟩ n) tT) else if y = Str.ofString "many" then some (.int n tM) else mB y))
    (N : News h₀ L h ((D, LCg.lst [.str ⟨#[x1.toNat]⟩ t1, .str ⟨#[x2.toNat]⟩ t2, .str ⟨#[x3.toNat]⟩ t3]) :: rest))
    (hn : 1 ≤ n ∧ n ≤ 9) (h1 : 65 ≤ x1 ∧ x1 < 73) (h2 : 73 ≤ x2 ∧ x2 < 81) (h3 : 81 ≤ x3 ∧ x3 < 89) :
    ∃ (m0 a b c : Nat) (mm : Str → Option Value), 1 ≤ m0 ∧ m0 ≤ 9 ∧ a ≠ b ∧ a ≠ c ∧ b ≠ c ∧ Fr h₀ L h mm ∧
      News h₀ L h ((D, PySem.W.listOf #[.str (tx [a]) t1, .str (tx [b]) t2, .str (tx [c]) t3] 3) :: rest) ∧ mm (Str.ofString "many") = some (.int (m0 : Int) tM) ∧ mm (Str.ofString "text") = some (.str (tx (List.replicate m0 a)) tT) := by
  refine ⟨n.toNat, x1.toNat, x2.toNat, x3.toNat, _, by omega, by omega, by omega, by omega, by omega, F, N, ?_, ?_⟩
  · have e : (Str.ofString "many" = Str.ofString "text") = False := by decide
    simp only [e, if_false, if_true]
    rw [show ((n.toNat : Nat) : Int) = n by omega]
  · simp only [if_true]
    have e : Txt.mul ⟨#[x1.toNat]⟩ n = tx (List.replicate n.toNat x1.toNat) := mul_one _ _
    rw [e]
section
variable {prog : Program} {w : World} {A : Around} {E : Value → Shared → Prop} {s : Shared} {env : Env} {h₀ : Heap} {x : Str} {body : List Stmt} {Q : Flow → Shared → Prop}
theorem rloopC {σ : Type} {r : Addr} {a₀ b₀ : Int} {t₀ u₀ v₀ : Tok} {n : Nat} {m₀ : Str → Option Value} {news : List (Addr × Obj)} (ps : σ → List (Str × Value)) (P : Nat → σ → Prop) (Pout : σ → Prop) (c₀ : σ)
    (hh : A.handled = none) (hr : IsRange s.heap r a₀ b₀ 1 t₀ u₀ v₀) (hsmall : Builtin.Range.small a₀ b₀ 1 = true) (hn : Builtin.Range.rangeSize a₀ b₀ 1 = (n : Int)) (F : Fr h₀ env.locals s.heap m₀) (N : News h₀ env.locals s.heap news) (hk : ∀ p ∈ ps c₀, m₀ p.1 = some p.2) (hp : P 0 c₀)
    (hout : ∀ c, P n c → Pout c)
    (turn : ∀ (c : σ) (i : Nat) (t : Tok) (u : Str → Option Value) (h : Heap) (tk : Nat) (I : Addr) (oI : Obj), i < n → P i c → oI.cls = .type "range_iterator" → (∀ p ∈ news, p.1 ≠ I) →
      Fr h₀ env.locals h (fun y => if y = x then some (.int (a₀ + (i : Int)) t) else kstB u (ps c) y) → News h₀ env.locals h ((I, oI) :: news) →
      wpAny (model prog w) A (execs body env) (REnd h₀ env.locals ps (fun _ => news) (P (i + 1)) Pout I oI { s with heap := h, toks := tk }) E { s with heap := h, toks := tk })
    (cont : ∀ (c : σ) (u : Str → Option Value) (h : Heap) (tk : Nat), Pout c → Fr h₀ env.locals h (kstB u (ps c)) → News h₀ env.locals h news → Q .next { s with heap := h, toks := tk }) :
    wpAny (model prog w) A (pyIter (.ref r)) (fun it s₂ => LoopAtV prog w A h₀ env x body Q E it s₂) E s :=
  rloop ps (fun _ => news) P Pout c₀ hh hr hsmall hn F N (fun _ h => h) hk hp hout turn cont
end
theorem ps1_ok {a : Nat} {m : Str → Option Value} {M : Nat} {tM tT : Tok} (e1 : m (Str.ofString "many") = some (.int (M : Int) tM)) (e2 : m (Str.ofString "text") = some (.str (tx (List.replicate M a)) tT)) : ∀ p ∈ [(Str.ofString "many", Value.int (M : Int) tM), (Str.ofString "text", Value.str (tx (List.replicate M a)) tT)], m p.1 = some p.2 := by
  intro p hp
  rcases List.mem_cons.mp hp with rfl | hp
  · exact e1
  · rcases List.mem_cons.mp hp with rfl | hp
    · exact e2
    · cases hp
abbrev C1 : Type := Nat × Tok × Tok
abbrev ps1 (a : Nat) (c : C1) : List (Str × Value) := [(Str.ofString "many", .int (c.1 : Int) c.2.1), (Str.ofString "text", .str (tx (List.replicate c.1 a)) c.2.2)]
def Pi1 (m0 : Nat) (i : Nat) (c : C1) : Prop := c.1 = itM m0 i ∧ ∀ j, j < i → itM m0 j ≠ 1
theorem pi1_zero (m0 : Nat) (t u : Tok) : Pi1 m0 0 (m0, t, u) := ⟨rfl, fun _ h => absurd h (Nat.not_lt_zero _)⟩
theorem pi1_out {m0 : Nat} (h0 : 1 ≤ m0) (h1 : m0 ≤ 9) (c : C1) (h : Pi1 m0 14 c) : c.1 = 1 := by
  obtain ⟨j, hj, e⟩ := itM_end h0 h1
  exact absurd e (h.2 j hj)
theorem pi1_succ {m0 i M : Nat} {t u t' u' : Tok} (h : Pi1 m0 i (M, t, u)) (hM : M ≠ 1) : Pi1 m0 (i + 1) (nextM M, t', u') := by
  obtain ⟨e, h2⟩ := h
  have e' : M = itM m0 i := e
  refine ⟨by show nextM M = nextM (itM m0 i); rw [← e'], fun j hj => ?_⟩
  by_cases hji : j = i
  · subst hji; rw [← e']; exact hM
  · exact h2 j (by omega)
theorem pi1_ok {m0 i M : Nat} {t u : Tok} (h0 : 1 ≤ m0) (h1 : m0 ≤ 9) (hi : i < 14) (h : Pi1 m0 i (M, t, u)) : 1 ≤ M ∧ M ≤ 26 := by
  have e' : M = itM m0 i := h.1
  rw [e']; exact itM_ok h0 h1 (by omega)
end Mine
-- part U3
namespace Mine
open PySem PySem.W PyProof.Rows
section
variable {σ : Type} {h₀ : Heap} {L : Addr} {ps : σ → List (Str × Value)} {news news' : List (Addr × Obj)} {P Pout : σ → Prop} {I : Addr} {oI : Obj} {s₁ : Shared} {h' : Heap} {tk : Nat} {m' : Str → Option Value} {c : σ}
theorem rend_brk (F : Fr h₀ L h' m') (N : News h₀ L h' news') (hs : ∀ p ∈ news, p ∈ news') (e : ∀ p ∈ ps c, m' p.1 = some p.2) (hP : Pout c) :
    REnd h₀ L ps (fun _ => news) P Pout I oI s₁ .brk { s₁ with heap := h', toks := tk } := ⟨c, h', tk, m', rfl, F, fun p hp => N p (hs p hp), e, hP⟩
theorem rend_next (F : Fr h₀ L h' m') (N : News h₀ L h' ((I, oI) :: news)) (hne : ∀ p ∈ news, p.1 ≠ I) (e : ∀ p ∈ ps c, m' p.1 = some p.2) (hP : P c) :
    REnd h₀ L ps (fun _ => news) P Pout I oI s₁ .next { s₁ with heap := h', toks := tk } := ⟨c, h', tk, m', rfl, F, N, hne, e, hP⟩
end
abbrev C2 : Type := Nat × Tok
abbrev ps2 (M : Nat) (tM : Tok) (a b c : Nat) (k : C2) : List (Str × Value) := [(Str.ofString "many", .int (M : Int) tM), (Str.ofString "text", .str (tx (dueL M k.1 a b c)) k.2)]
def Pi2 (i : Nat) (k : C2) : Prop := k.1 = i
theorem pi2_eq {i d : Nat} {t : Tok} (h : Pi2 i (d, t)) : d = i := h
theorem ps2_zero {a b c M : Nat} {m : Str → Option Value} {tM tT : Tok} (e1 : m (Str.ofString "many") = some (.int (M : Int) tM)) (e2 : m (Str.ofString "text") = some (.str (tx (List.replicate M a)) tT)) : ∀ p ∈ ps2 M tM a b c (0, tT), m p.1 = some p.2 := by
  intro p hp
  rcases List.mem_cons.mp hp with rfl | hp
  · exact e1
  · rcases List.mem_cons.mp hp with rfl | hp
    · show m (Str.ofString "text") = some (.str (tx (dueL M 0 a b c)) tT)
      rw [due_zero]; exact e2
    · cases hp
theorem ps2_ok {a b c M d : Nat} {m : Str → Option Value} {tM tT : Tok} (e1 : m (Str.ofString "many") = some (.int (M : Int) tM)) (e2 : m (Str.ofString "text") = some (.str (tx (dueL M d a b c)) tT)) : ∀ p ∈ ps2 M tM a b c (d, tT), m p.1 = some p.2 := by
  intro p hp
  rcases List.mem_cons.mp hp with rfl | hp
  · exact e1
  · rcases List.mem_cons.mp hp with rfl | hp
    · exact e2
    · cases hp
theorem one_add (i : Nat) : (1 : Int) + (i : Int) = ((i + 1 : Nat) : Int) := by omega
theorem stepsN (M : Nat) : Builtin.Range.rangeSize 1 ((M : Int) + ((M % 2 : Nat) : Int) + 1) 1 = ((M + M % 2 : Nat) : Int) := by
  rw [rangeSize_nat]; omega
theorem stepsSmall {M : Nat} (h : M ≤ 26) : Builtin.Range.small 1 ((M : Int) + ((M % 2 : Nat) : Int) + 1) 1 = true := small_one (by omega) (by omega) (by omega) (by omega)
theorem nx1 {M : Nat} (h : (M : Int).fmod 2 = 0) : (M : Int).fdiv 2 = (nextM M : Int) := by
  rw [fmod2] at h
  have h2 : M % 2 = 0 := by omega
  rw [fdiv2, nextM, if_pos h2]
theorem nx2 {M : Nat} (h : (M : Int).fmod 2 ≠ 0) : (3 * (M : Int) + 1).fdiv 2 = (nextM M : Int) := by
  rw [fmod2] at h
  have h2 : ¬ M % 2 = 0 := by omega
  rw [show (3 * (M : Int) + 1) = ((3 * M + 1 : Nat) : Int) by omega, fdiv2, nextM, if_neg h2]
theorem nx_le {M : Nat} (h : M ≤ 26) : nextM M ≤ 100 := by
  unfold nextM; split <;> omega
theorem due_len250 {M d a b c : Nat} (h : M ≤ 26) (h2 : d ≤ 31) : (dueL M d a b c).length ≤ 250 := Nat.le_trans (due_len M d a b c (by omega) h2) (by decide)
theorem many_eq {M : Nat} {x : Int} {o : Option Value} {t : Tok} (h : o = some (.int x t)) (e : x = (M : Int)) : o = some (.int (M : Int) t) := by rw [h, e]
theorem two_le {M : Nat} (h : 1 ≤ M) (h1 : ¬ (M : Int) = 1) : 2 ≤ M := by omega
theorem is_one {M : Nat} (h1 : (M : Int) = 1) : M = 1 := by omega
theorem inner_facts {M d : Nat} (h : 1 ≤ M ∧ M ≤ 26) (hj : d < M + M % 2) : M ≤ 30 ∧ d ≤ 31 ∧ 1 ≤ d + 1 ∧ d + 1 ≤ M + 1 := by omega
section
variable {h₀ : Heap} {L : Addr} {news : List (Addr × Obj)} {I : Addr} {oI : Obj} {s₁ : Shared} {h' : Heap} {tk : Nat} {m' : Str → Option Value}
theorem rend_in {M d a b c : Nat} {tM : Tok} {Pout : C2 → Prop} (F : Fr h₀ L h' m') (N : News h₀ L h' ((I, oI) :: news)) (hne : ∀ p ∈ news, p.1 ≠ I)
    (e1 : m' (Str.ofString "many") = some (.int (M : Int) tM)) (e2 : ∃ t, m' (Str.ofString "text") = some (.str (tx (dueL M (d + 1) a b c)) t)) :
    REnd h₀ L (ps2 M tM a b c) (fun _ => news) (Pi2 (d + 1)) Pout I oI s₁ .next { s₁ with heap := h', toks := tk } := by
  obtain ⟨t, e2⟩ := e2
  exact rend_next (c := (d + 1, t)) F N hne (ps2_ok e1 e2) rfl
theorem rend_out {m0 i M a : Nat} {tM tT : Tok} {x : Int} {Pout : C1 → Prop} (F : Fr h₀ L h' m') (N : News h₀ L h' ((I, oI) :: news)) (hne : ∀ p ∈ news, p.1 ≠ I)
    (hP : Pi1 m0 i (M, tM, tT)) (hM2 : 2 ≤ M) (hx : x = (nextM M : Int))
    (e1 : ∃ t, m' (Str.ofString "many") = some (.int x t)) (e2 : ∃ t, m' (Str.ofString "text") = some (.str (tx (List.replicate (nextM M) a)) t)) :
    REnd h₀ L (ps1 a) (fun _ => news) (Pi1 m0 (i + 1)) Pout I oI s₁ .next { s₁ with heap := h', toks := tk } := by
  obtain ⟨t, e1⟩ := e1
  obtain ⟨u, e2⟩ := e2
  subst hx
  exact rend_next (c := (nextM M, t, u)) F N hne (ps1_ok e1 e2) (pi1_succ hP (by omega))
end
theorem tx_rep1 (a : Nat) : tx (List.replicate 1 a) = tx [a] := rfl
end Mine
-- part J1
namespace Mine
open PySem PySem.W PyProof.Rows PySem.Calls PyProof.V PySem.Spec
section
variable {prog : Program} {w : World} {A : Around} {E : Value → Shared → Prop} {s : Shared} {env : Env} {h₀ : Heap} {L : Addr} {m : Str → Option Value}
  {elt : Expr} {x : Str} {scope : Scope} {cl : List (Str × Addr)}
theorem compEnd_mono {s₁ : Shared} {I : Addr} {oI : Obj} {C : Addr} {oC : Obj} {D : Addr} {oD : Obj} {S : List (Addr × Obj) → Prop} {rest rest' : Value → List (Addr × Obj) → Prop} {y : Value} {s₂ : Shared}
    (h : LCg.CompEnd h₀ L m s₁ I oI C oC D oD S rest y s₂) (hr : ∀ n, rest y n → rest' y n) : LCg.CompEnd h₀ L m s₁ I oI C oC D oD S rest' y s₂ := by
  obtain ⟨h', tk, news', e, F, N, off, hS, r⟩ := h
  exact ⟨h', tk, news', e, F, N, off, hS, hr _ r⟩
theorem comp_inv {σ : Type} {S : List (Addr × Obj) → Prop} {P : Nat → Value → Prop} {Fin : List Value → List (Addr × Obj) → Prop} {n : Nat} (Led : σ → List (Addr × Obj)) (J : Nat → List Value → σ → Prop)
    (step : ∀ i ys c v I oI C oC D m₂ h tk (E' : Value → Shared → Prop), i < n → J i ys c → P i v → LCg.NsObj oC m₂ → m₂ x = some v → Fr h₀ L h m → News h₀ L h ((I, oI) :: (C, oC) :: (D, LCg.lst ys) :: Led c) → LCg.Off3 I C D (Led c) → ((@Ne Nat I C) ∧ (@Ne Nat I D) ∧ (@Ne Nat C D)) →
      wpAny (model prog w) A (eval elt (compEnvC scope cl C env)) (LCg.CompEnd h₀ L m { s with heap := h, toks := tk } I oI C oC D (LCg.lst ys) S (fun y news' => ∃ c', news' = Led c' ∧ J (i + 1) (ys ++ [y]) c')) E' { s with heap := h, toks := tk })
    (fin : ∀ ys c, J n ys c → Fin ys (Led c)) :
    ∀ k i ys c, i + k = n → J i ys c → LCg.CompRest prog w A h₀ L m env elt x scope cl s S P Fin k i ys (Led c) := by
  intro k
  induction k with
  | zero => intro i ys c hi hJ; exact fin ys c (by rw [← hi]; exact hJ)
  | succ k ih =>
    intro i ys c hi hJ
    refine LCg.CompRest.succ fun v I oI C oC D m₂ h tk E' hP hC hx F N off ne => ?_
    refine wpAny_mono (step i ys c v I oI C oC D m₂ h tk E' (by omega) hJ hP hC hx F N off ne) (fun y s₂ q => compEnd_mono q fun nw hr => ?_) fun _ _ e => e
    obtain ⟨c', rfl, hJ'⟩ := hr
    exact ih (i + 1) (ys ++ [y]) c' (by omega) hJ'
def RowIs (ys : List Value) (r : List Nat) : Prop := IntsAre ys (r.map fun (k : Nat) => (k : Int)) ∧ ∀ k ∈ r, k < 3
theorem intsAre_append {vs ws : List Value} {ns ms : List Int} (h : IntsAre vs ns) (g : IntsAre ws ms) : IntsAre (vs ++ ws) (ns ++ ms) := by
  induction h with
  | nil => exact g
  | cons n t _ ih => exact .cons n t ih
theorem strsAre_append {vs ws : List Value} {ns ms : List Str} (h : StrsAre vs ns) (g : StrsAre ws ms) : StrsAre (vs ++ ws) (ns ++ ms) := by
  induction h with
  | nil => exact g
  | cons n t _ ih => exact .cons n t ih
theorem rowIs_nil : RowIs [] [] := ⟨.nil, fun _ h => nomatch h⟩
theorem rowIs_snoc {ys : List Value} {r : List Nat} {v : Int} {t : Tok} (h : RowIs ys r) (h0 : 0 ≤ v) (h1 : v < 3) : RowIs (ys ++ [.int v t]) (r ++ [v.toNat]) := by
  refine ⟨?_, fun k hk => ?_⟩
  · rw [List.map_append]
    refine intsAre_append h.1 ?_
    have e : ((v.toNat : Nat) : Int) = v := by omega
    show IntsAre [_] [((v.toNat : Nat) : Int)]
    rw [e]; exact .cons _ _ .nil
  · rcases List.mem_append.mp hk with hk | hk
    · exact h.2 k hk
    · rw [List.mem_singleton.mp hk]; omega
theorem rowIs_len {ys : List Value} {r : List Nat} (h : RowIs ys r) : ys.length = r.length := by
  have := h.1.length
  simpa using this
theorem rowComp {Fin : Shared → List Value → List (Addr × Obj) → Prop} {r : Addr} {v : Int} {t u z : Tok} {s₁ : Shared} {e1 : Addr × Obj} {post : List (Addr × Obj)} {bag l : Addr} {cc : Nat} {q0 : Int} {t0 : Tok}
    (hh : A.handled = none) (F : Fr h₀ L s₁.heap m) (N : News h₀ L s₁.heap (e1 :: (bag, PySem.W.listOf #[.ref l, .int q0 t0] cc) :: post)) (hr : IsRange s₁.heap r 0 (4 + v) 1 t u z) (h0 : 0 ≤ v) (h1 : v < 3) (hq : 0 ≤ q0) (hq1 : q0 ≤ 90)
    (step : ∀ (i : Nat) (ys : List Value) (q : Int) (tq : Tok) (y : Int) (ty : Tok) (g : Heap) I oI C oC D m₂ h tk (E' : Value → Shared → Prop), 0 ≤ q → q ≤ 100 → LCg.NsObj oC m₂ → m₂ x = some (.int y ty) → Fr h₀ L h m → News h₀ L h ((I, oI) :: (C, oC) :: (D, LCg.lst ys) :: e1 :: (bag, PySem.W.listOf #[.ref l, .int q tq] cc) :: post) → LCg.Off3 I C D (e1 :: (bag, PySem.W.listOf #[.ref l, .int q tq] cc) :: post) → ((@Ne Nat I C) ∧ (@Ne Nat I D) ∧ (@Ne Nat C D)) →
      wpAny (model prog w) A (eval elt (compEnvC scope cl C env)) (LCg.CompEnd h₀ L m (Shared.mk h s₁.gens s₁.drawn tk s₁.os) I oI C oC D (LCg.lst ys) (fun _ => True) (fun y news' => ∃ v t t', y = .int v t ∧ 0 ≤ v ∧ v < 3 ∧ news' = e1 :: (bag, PySem.W.listOf #[.ref l, .int (q + 1) t'] cc) :: post)) E' (Shared.mk h s₁.gens s₁.drawn tk s₁.os))
    (fin : ∀ (g : Heap) (ys : List Value) (rw_ : List Nat) (q : Int) (tq : Tok), RowIs ys rw_ → 4 ≤ rw_.length → rw_.length ≤ 6 → Fin { s₁ with heap := g } ys (e1 :: (bag, PySem.W.listOf #[.ref l, .int q tq] cc) :: post)) :
    LCg.CompSrc prog w A h₀ L m env elt x scope cl Fin (.ref r) s₁ := by
  refine LCg.CompSrc.range hh F N hr (small_one (by omega) (by omega) (by omega) (by omega)) (rangeSize_nat _ _) (by
    have e : sizeLine = 2 ^ 24 := rfl
    omega) fun g => ?_
  refine comp_inv (σ := Int × Tok) (n := (4 + v - 0).toNat) (fun c => e1 :: (bag, PySem.W.listOf #[.ref l, .int c.1 c.2] cc) :: post) (fun i ys c => c.1 = q0 + i ∧ ∃ r, RowIs ys r ∧ r.length = i) ?_ ?_ _ 0 [] (q0, t0) (by omega) ⟨by simp, [], rowIs_nil, rfl⟩
  · rintro i ys ⟨q, tq⟩ _ I oI C oC D m₂ h tk E' hi ⟨hq', r', hr', hl'⟩ ⟨ty, rfl⟩ hC hx F' N' off ne
    have hq'' : q = q0 + i := hq'
    refine wpAny_mono (step i ys q tq _ ty g I oI C oC D m₂ h tk E' (by omega) (by omega) hC hx F' N' off ne) (fun y s₂ p => compEnd_mono p fun nw hr => ?_) fun _ _ e => e
    obtain ⟨v', t', t'', rfl, hv0, hv1, rfl⟩ := hr
    refine ⟨(q + 1, t''), rfl, ?_, r' ++ [v'.toNat], rowIs_snoc hr' hv0 hv1, by simp [hl']⟩
    show q + 1 = q0 + ((i + 1 : Nat) : Int)
    omega
  · rintro ys ⟨q, tq⟩ ⟨hq', r', hr', hl'⟩
    exact fin g ys r' q tq hr' (by omega) (by omega)
def sgn (a b c k : Nat) : Nat := if k = 0 then a else if k = 1 then b else c
theorem ints_at {vs : List Value} {r : List Nat} (h : RowIs vs r) {i : Nat} {v : Value} (hv : vs.toArray[i]? = some v) : ∃ k t, r[i]? = some k ∧ k < 3 ∧ v = .int (k : Int) t := by
  have hv' : vs[i]? = some v := by simpa using hv
  have hi : i < vs.length := by
    rcases Nat.lt_or_ge i vs.length with h1 | h1
    · exact h1
    · rw [List.getElem?_eq_none h1] at hv'; cases hv'
  have hr : i < r.length := by rw [← rowIs_len h]; exact hi
  obtain ⟨t, hx⟩ := h.1.get i (r[i] : Int) (by simp [hr])
  rw [hx] at hv'
  exact ⟨r[i], t, by simp [hr], h.2 _ (List.getElem_mem hr), (Option.some.inj hv').symm⟩
theorem txtComp {Fin : Shared → List Value → List (Addr × Obj) → Prop} {ax : Addr} {us : List Value} {r : List Nat} {cc : Nat} {s₁ : Shared} {news : List (Addr × Obj)} {a b c : Nat}
    (hh : A.handled = none) (F : Fr h₀ L s₁.heap m) (N : News h₀ L s₁.heap news) (hm : (ax, ({ cls := .type "list", data := .seq us.toArray cc } : Obj)) ∈ news) (hr : RowIs us r) (hlen : r.length ≤ 100)
    (step : ∀ (k : Nat) (kI : Int), ((k = 0 ∧ kI = 0) ∨ (k = 1 ∧ kI = 1) ∨ (k = 2 ∧ kI = 2)) → ∀ (ys : List Value) (t : Tok) (g : Heap) I oI C oC D m₂ h tk (E' : Value → Shared → Prop), LCg.NsObj oC m₂ → m₂ x = some (.int kI t) → Fr h₀ L h m → News h₀ L h ((I, oI) :: (C, oC) :: (D, LCg.lst ys) :: news) → LCg.Off3 I C D news → ((@Ne Nat I C) ∧ (@Ne Nat I D) ∧ (@Ne Nat C D)) →
      wpAny (model prog w) A (eval elt (compEnvC scope cl C env)) (LCg.CompEnd h₀ L m (Shared.mk h s₁.gens s₁.drawn tk s₁.os) I oI C oC D (LCg.lst ys) (LCg.SrcAt h₀ ax us.toArray) (fun y news' => news' = news ∧ ∃ t', y = .str (tx [sgn a b c k]) t')) E' (Shared.mk h s₁.gens s₁.drawn tk s₁.os))
    (fin : ∀ (g : Heap) (ys : List Value), StrsAre ys (r.map fun k => tx [sgn a b c k]) → Fin { s₁ with heap := g } ys news) :
    LCg.CompSrc prog w A h₀ L m env elt x scope cl Fin (.ref ax) s₁ := by
  have hul : us.toArray.size = r.length := by rw [List.size_toArray, rowIs_len hr]
  refine LCg.CompSrc.ledger hh F N hm (by
    have e : sizeLine = 2 ^ 24 := rfl
    omega) fun g => ?_
  refine comp_inv (σ := Unit) (n := us.toArray.size) (fun _ => news) (fun i ys _ => StrsAre ys ((r.take i).map fun k => tx [sgn a b c k])) ?_ ?_ _ 0 [] () (by omega) .nil
  · rintro i ys ⟨⟩ v I oI C oC D m₂ h tk E' hi hJ hP hC hx F' N' off ne
    obtain ⟨k, t, hk, hk3, rfl⟩ := ints_at hr hP
    have go : ∀ kI : Int, ((k = 0 ∧ kI = 0) ∨ (k = 1 ∧ kI = 1) ∨ (k = 2 ∧ kI = 2)) → m₂ x = some (.int kI t) → _ := fun kI hkI hx' => step k kI hkI ys t g I oI C oC D m₂ h tk E' hC hx' F' N' off ne
    refine wpAny_mono (go (k : Int) (by omega) hx) (fun y s₂ p => compEnd_mono p fun nw hr' => ?_) fun _ _ e => e
    obtain ⟨rfl, t', rfl⟩ := hr'
    refine ⟨(), rfl, ?_⟩
    have hs : r.take (i + 1) = r.take i ++ [k] := by simp [List.take_add_one, hk]
    rw [hs, List.map_append]
    exact strsAre_append hJ (.cons _ _ .nil)
  · rintro ys ⟨⟩ hJ
    refine fin g ys ?_
    rw [hul, List.take_length] at hJ
    exact hJ
theorem txt_end {s₁ : Shared} {I : Addr} {oI : Obj} {C : Addr} {oC : Obj} {D : Addr} {oD : Obj} {ax : Addr} {us : List Value} {cc : Nat} {news : List (Addr × Obj)} {a b c k : Nat} {y : Value} {h' : Heap} {tk : Nat}
    (F : Fr h₀ L h' m) (N : News h₀ L h' ((I, oI) :: (C, oC) :: (D, oD) :: news)) (off : LCg.Off3 I C D news) (hm : (ax, ({ cls := .type "list", data := .seq us.toArray cc } : Obj)) ∈ news) (hy : ∃ t', y = .str (tx [sgn a b c k]) t') :
    LCg.CompEnd h₀ L m s₁ I oI C oC D oD (LCg.SrcAt h₀ ax us.toArray) (fun y news' => news' = news ∧ ∃ t', y = .str (tx [sgn a b c k]) t') y { s₁ with heap := h', toks := tk } :=
  ⟨h', tk, news, rfl, F, N, off, Or.inr ⟨_, hm, rfl, _, rfl⟩, rfl, hy⟩
theorem row_end {s₁ : Shared} {I : Addr} {oI : Obj} {C : Addr} {oC : Obj} {D : Addr} {oD : Obj} {bag l : Addr} {cc : Nat} {q : Int} {tq t' : Tok} {e1 : Addr × Obj} {post : List (Addr × Obj)} {y : Value} {h' : Heap} {tk : Nat} {v : Int} {t : Tok}
    (F : Fr h₀ L h' m) (N : News h₀ L h' ((I, oI) :: (C, oC) :: (D, oD) :: e1 :: (bag, PySem.W.listOf #[.ref l, .int (q + 1) t'] cc) :: post)) (off : LCg.Off3 I C D (e1 :: (bag, PySem.W.listOf #[.ref l, .int q tq] cc) :: post)) (hy : y = .int v t) (h0 : 0 ≤ v) (h1 : v < 3) :
    LCg.CompEnd h₀ L m s₁ I oI C oC D oD (fun _ => True) (fun y news' => ∃ v t t', y = .int v t ∧ 0 ≤ v ∧ v < 3 ∧ news' = e1 :: (bag, PySem.W.listOf #[.ref l, .int (q + 1) t'] cc) :: post) y { s₁ with heap := h', toks := tk } :=
  ⟨h', tk, _, rfl, F, N, off, trivial, v, t, t', hy, h0, h1, rfl⟩
end
end Mine
-- part J2
namespace Mine
open PySem PySem.W PyProof.Rows PySem.Calls PyProof.V PySem.Spec
theorem join_tx : ∀ l : List Nat, Str.join (Str.ofString "") (l.map fun k => tx [k]) = tx l
  | [] => rfl
  | [x] => rfl
  | x :: y :: r => by
    have ih := join_tx (y :: r)
    show tx [x] ++ Str.ofString "" ++ Str.join (Str.ofString "") ((y :: r).map fun k => tx [k]) = _
    rw [ih]
    have e : (Str.ofString "") = tx [] := by decide
    rw [e, tx_append, tx_append]
    simp
theorem sum_ones (r : List Nat) (f : Nat → Nat) : ((r.map fun k => tx [f k]).map (·.length)).sum = r.length := by
  induction r with
  | nil => rfl
  | cons k r ih =>
    rw [List.map_cons, List.map_cons, List.sum_cons, ih, tx_len]
    simp only [List.length_cons, List.length_nil]
    omega
section
variable {prog : Program} {w : World} {A : Around} {E : Value → Shared → Prop} {s : Shared} {h₀ : Heap} {L : Addr} {news : List (Addr × Obj)} {Q : Value → Shared → Prop} {t : Tok}
theorem join_use {D : Addr} {ys : List Value} {r : List Nat} {a b c : Nat} (N : News h₀ L s.heap news) (hm : (D, LCg.lst ys) ∈ news) (hs : StrsAre ys (r.map fun k => tx [sgn a b c k])) (hr : r.length ≤ 100)
    (h : ∀ t' k, Q (.str (tx (r.map (sgn a b c))) t') { s with toks := k }) : wpAny (model prog w) A (call (.builtin "str.join") [.str (Str.ofString "") t, .ref D]) Q E s := by
  refine join_list (ys := r.map fun k => tx [sgn a b c k]) (News.isList N hm) (by simpa using hs) ?_ fun t' k => ?_
  · rw [sum_ones, List.length_map]
    have e : (Str.ofString "").length = 0 := by decide
    rw [e]; omega
  · have e : Txt.join (Str.ofString "") (r.map fun k => tx [sgn a b c k]) = tx (r.map (sgn a b c)) := by
      have h1 := join_tx (r.map (sgn a b c))
      rw [List.map_map] at h1
      unfold Txt.join
      rw [PySem.StrLaws.glued_eq_join]
      exact h1
    rw [e]; exact h t' k
end
end Mine
-- part J3
namespace Mine
open PySem PySem.W PyProof.Rows PySem.Calls PyProof.V PySem.Spec
abbrev C3 : Type := Addr × List Value × Nat × List Nat × Tok
abbrev ps3 (a b c : Nat) (k : C3) : List (Str × Value) := [(Str.ofString "row", .ref k.1), (Str.ofString "text", .str (tx (k.2.2.2.1.map (sgn a b c))) k.2.2.2.2)]
abbrev led3 (tail : List (Addr × Obj)) (k : C3) : List (Addr × Obj) := (k.1, PySem.W.listOf k.2.1.toArray k.2.2.1) :: tail
def P3 (i : Nat) (k : C3) : Prop := RowIs k.2.1 k.2.2.2.1 ∧ k.2.2.2.1.length ≤ 6 + i
def R3End (h₀ : Heap) (L : Addr) (a b c : Nat) (tail : List (Addr × Obj)) (len : Nat) (I : Addr) (oI : Obj) (s₁ : Shared) (f : Flow) (s₂ : Shared) : Prop :=
  match f with
  | .ret _ => False
  | .brk => ∃ r1 us cc q t h' tk m', s₂ = { s₁ with heap := h', toks := tk } ∧ Fr h₀ L h' m' ∧ News h₀ L h' ((r1, PySem.W.listOf (List.toArray us) cc) :: tail) ∧ m' (Str.ofString "row") = some (.ref r1) ∧ m' (Str.ofString "text") = some (.str (tx (List.map (sgn a b c) q)) t)
  | _ => ∃ r1 us cc q t h' tk m', s₂ = { s₁ with heap := h', toks := tk } ∧ Fr h₀ L h' m' ∧ News h₀ L h' ((I, oI) :: (r1, PySem.W.listOf (List.toArray us) cc) :: tail) ∧ m' (Str.ofString "row") = some (.ref r1) ∧ m' (Str.ofString "text") = some (.str (tx (List.map (sgn a b c) q)) t) ∧ RowIs us q ∧ q.length ≤ len
section
variable {prog : Program} {w : World} {A : Around} {E : Value → Shared → Prop} {s : Shared} {env : Env} {h₀ : Heap} {x : Str} {body : List Stmt} {Q : Flow → Shared → Prop}
theorem r3_brk {L : Addr} {a b c len : Nat} {tail : List (Addr × Obj)} {I : Addr} {oI : Obj} {s₁ : Shared} {h' : Heap} {tk : Nat} {m' : Str → Option Value} {r1 : Addr} {us : List Value} {cc : Nat} {q : List Nat} {t : Tok}
    (F : Fr h₀ L h' m') (N : News h₀ L h' ((I, oI) :: (r1, PySem.W.listOf us.toArray cc) :: tail)) (e1 : m' (Str.ofString "row") = some (.ref r1)) (e2 : m' (Str.ofString "text") = some (.str (tx (q.map (sgn a b c))) t)) :
    R3End h₀ L a b c tail len I oI s₁ .brk { s₁ with heap := h', toks := tk } := ⟨r1, us, cc, q, t, h', tk, m', rfl, F, fun p hp => N p (.tail _ hp), e1, e2⟩
theorem r3_next {L : Addr} {a b c len : Nat} {tail news : List (Addr × Obj)} {I : Addr} {oI : Obj} {s₁ : Shared} {h' : Heap} {tk : Nat} {m' : Str → Option Value} {r1 : Addr} {us : List Value} {cc : Nat} {q : List Nat} {t : Tok}
    (F : Fr h₀ L h' m') (N : News h₀ L h' news) (hI : (I, oI) ∈ news) (hr : (r1, PySem.W.listOf us.toArray cc) ∈ news) (hs : ∀ p ∈ tail, p ∈ news) (e1 : m' (Str.ofString "row") = some (.ref r1)) (e2 : m' (Str.ofString "text") = some (.str (tx (q.map (sgn a b c))) t)) (hrow : RowIs us q) (hlen : q.length ≤ len) :
    R3End h₀ L a b c tail len I oI s₁ .next { s₁ with heap := h', toks := tk } := by
  refine ⟨r1, us, cc, q, t, h', tk, m', rfl, F, fun p hp => ?_, e1, e2, hrow, hlen⟩
  rcases List.mem_cons.mp hp with rfl | hp
  · exact N _ hI
  · rcases List.mem_cons.mp hp with rfl | hp
    · exact N _ hr
    · exact N p (hs p hp)
theorem rloop3 {r : Addr} {a₀ b₀ : Int} {t₀ u₀ v₀ : Tok} {n : Nat} {m₀ : Str → Option Value} {x0 : Addr × Obj} {r0 : Addr} {ys : List Value} {tail : List (Addr × Obj)} {rr : List Nat} {a b c : Nat} {tT : Tok}
    (hh : A.handled = none) (hr : IsRange s.heap r a₀ b₀ 1 t₀ u₀ v₀) (hsmall : Builtin.Range.small a₀ b₀ 1 = true) (hn : Builtin.Range.rangeSize a₀ b₀ 1 = (n : Int)) (F : Fr h₀ env.locals s.heap m₀) (N : News h₀ env.locals s.heap (x0 :: (r0, LCg.lst ys) :: tail))
    (hrow : RowIs ys rr) (hlen : rr.length ≤ 6) (e1 : m₀ (Str.ofString "row") = some (.ref r0)) (e2 : m₀ (Str.ofString "text") = some (.str (tx (rr.map (sgn a b c))) tT))
    (turn : ∀ (r1 : Addr) (us : List Value) (cc : Nat) (q : List Nat) (tT : Tok) (i : Nat) (t : Tok) (u : Str → Option Value) (h : Heap) (tk : Nat) (I : Addr) (oI : Obj), i < n → RowIs us q → q.length ≤ 6 + i → oI.cls = .type "range_iterator" → (∀ p ∈ (r1, PySem.W.listOf us.toArray cc) :: tail, p.1 ≠ I) →
      Fr h₀ env.locals h (fun y => if y = x then some (.int (a₀ + (i : Int)) t) else if y = Str.ofString "row" then some (.ref r1) else if y = Str.ofString "text" then some (.str (tx (q.map (sgn a b c))) tT) else u y) → News h₀ env.locals h ((I, oI) :: (r1, PySem.W.listOf us.toArray cc) :: tail) →
      wpAny (model prog w) A (execs body env) (R3End h₀ env.locals a b c tail (7 + i) I oI { s with heap := h, toks := tk }) E { s with heap := h, toks := tk })
    (cont : ∀ (u : Str → Option Value) (h : Heap) (tk : Nat), Fr h₀ env.locals h u → News h₀ env.locals h tail → Q .next { s with heap := h, toks := tk }) :
    wpAny (model prog w) A (pyIter (.ref r)) (fun it s₂ => LoopAtV prog w A h₀ env x body Q E it s₂) E s := by
  refine rloop (σ := C3) (ps3 a b c) (led3 tail) P3 (fun _ => True) (r0, ys, ys.length, rr, tT) hh hr hsmall hn F N (fun p hp => .tail _ hp) ?_ ⟨hrow, by omega⟩ (fun _ _ => trivial) ?_ ?_
  · refine List.forall_mem_cons.mpr ⟨e1, List.forall_mem_cons.mpr ⟨e2, List.forall_mem_nil _⟩⟩
  · rintro ⟨r1, us, cc, q, tT⟩ i t u h tk I oI hi ⟨hrow', hlen'⟩ hcls hne F' N'
    refine wpAny_mono (turn r1 us cc q tT i t u h tk I oI hi hrow' hlen' hcls hne F' N') (fun f s₂ p => ?_) fun _ _ e => e
    have fin : (∃ r1 us cc q t h' tk' m', s₂ = { ({ s with heap := h, toks := tk } : Shared) with heap := h', toks := tk' } ∧ Fr h₀ env.locals h' m' ∧ News h₀ env.locals h' ((I, oI) :: (r1, PySem.W.listOf (List.toArray us) cc) :: tail) ∧ m' (Str.ofString "row") = some (.ref r1) ∧ m' (Str.ofString "text") = some (.str (tx (List.map (sgn a b c) q)) t) ∧ RowIs us q ∧ q.length ≤ 7 + i) →
        ∃ k h' tk' m', s₂ = { ({ s with heap := h, toks := tk } : Shared) with heap := h', toks := tk' } ∧ Fr h₀ env.locals h' m' ∧ News h₀ env.locals h' ((I, oI) :: led3 tail k) ∧ (∀ p ∈ led3 tail k, p.1 ≠ I) ∧ (∀ p ∈ ps3 a b c k, m' p.1 = some p.2) ∧ P3 (i + 1) k := by
      rintro ⟨r2, us2, cc2, q2, t2, h', tk', m', rfl, F2, N2, e1', e2', hr2, hl2⟩
      refine ⟨(r2, us2, cc2, q2, t2), h', tk', m', rfl, F2, N2, fun p hp => ?_, List.forall_mem_cons.mpr ⟨e1', List.forall_mem_cons.mpr ⟨e2', List.forall_mem_nil _⟩⟩, hr2, by show q2.length ≤ _; omega⟩
      rcases List.mem_cons.mp hp with rfl | hp
      · intro e
        have g1 := (N2 (I, oI) (.head _)).1
        have g2 := (N2 (r2, PySem.W.listOf (List.toArray us2) cc2) (.tail _ (.head _))).1
        have e' : r2 = I := e
        subst e'
        rw [g1] at g2
        have h8 : oI = PySem.W.listOf (List.toArray us2) cc2 := Option.some.inj g2
        rw [h8] at hcls
        have h9 : Value.type "list" = Value.type "range_iterator" := hcls
        exact absurd h9 (by decide)
      · exact hne p (.tail _ hp)
    cases f with
    | ret v => exact p
    | brk =>
      obtain ⟨r2, us2, cc2, q2, t2, h', tk', m', rfl, F2, N2, e1', e2'⟩ := p
      exact ⟨(r2, us2, cc2, q2, t2), h', tk', m', rfl, F2, N2, List.forall_mem_cons.mpr ⟨e1', List.forall_mem_cons.mpr ⟨e2', List.forall_mem_nil _⟩⟩, trivial⟩
    | next => exact fin p
    | cont => exact fin p
  · rintro ⟨r1, us, cc, q, tT⟩ u h tk _ F' N'
    exact cont _ h tk F' fun p hp => N' p (.tail _ hp)
end
end Mine
-- part J4
namespace Mine
open PySem PySem.W PyProof.Rows PySem.Calls PyProof.V PySem.Spec
abbrev ic (r : List Nat) : List Int := r.map fun (k : Nat) => (k : Int)
theorem rowIs_mk {us : List Value} {r : List Nat} (h : IntsAre us (ic r)) (h3 : ∀ k ∈ r, k < 3) : RowIs us r := ⟨h, h3⟩
theorem rowIs_add {us : List Value} {rest ts : List Nat} (h : IntsAre us (ic rest ++ ic ts)) (h1 : ∀ k ∈ rest, k < 3) (h2 : ∀ k ∈ ts, k < 3) : RowIs us (rest ++ ts) := by
  refine ⟨by rw [List.map_append]; exact h, fun k hk => ?_⟩
  rcases List.mem_append.mp hk with hk | hk
  · exact h1 k hk
  · exact h2 k hk
theorem row_cases {us : List Value} {q : List Nat} (h : RowIs us q) (hge : ¬ (q.length : Int) < 2) : ∃ (k1 : Nat) (rest : List Nat), (∀ k ∈ rest, k < 3) ∧
    ((q = 0 :: k1 :: rest ∧ IntsAre us ((0 : Int) :: (k1 : Int) :: ic rest)) ∨ (q = 1 :: k1 :: rest ∧ IntsAre us ((1 : Int) :: (k1 : Int) :: ic rest)) ∨ (q = 2 :: k1 :: rest ∧ IntsAre us ((2 : Int) :: (k1 : Int) :: ic rest))) := by
  match q, h, hge with
  | [], _, hge => exact absurd (by decide) hge
  | [_], _, hge => exact absurd (show ((1 : Nat) : Int) < 2 by decide) hge
  | k0 :: k1 :: rest, h, _ =>
    have h3 := h.2 k0 (.head _)
    refine ⟨k1, rest, fun k hk => h.2 k (.tail _ (.tail _ hk)), ?_⟩
    have hI := h.1
    match k0, h3, hI with
    | 0, _, hI => exact .inl ⟨rfl, hI⟩
    | 1, _, hI => exact .inr (.inl ⟨rfl, hI⟩)
    | 2, _, hI => exact .inr (.inr ⟨rfl, hI⟩)
theorem len14 {n i : Nat} (h : n ≤ 6 + i) (hi : i < 14) : n ≤ 20 := by omega
theorem step_row0 {k1 a b c : Nat} {rest : List Nat} : stepL (List.map (sgn a b c) (0 :: k1 :: rest)) a b c = List.map (sgn a b c) (rest ++ [1, 2]) := by
  show stepL (a :: sgn a b c k1 :: List.map (sgn a b c) rest) a b c = _
  rw [step_a, List.map_append]; rfl
theorem step_row1 {k1 a b c : Nat} {rest : List Nat} (hab : a ≠ b) : stepL (List.map (sgn a b c) (1 :: k1 :: rest)) a b c = List.map (sgn a b c) (rest ++ [0]) := by
  show stepL (b :: sgn a b c k1 :: List.map (sgn a b c) rest) a b c = _
  rw [step_b _ _ _ _ _ hab, List.map_append]; rfl
theorem step_row2 {k1 a b c : Nat} {rest : List Nat} (hac : a ≠ c) (hbc : b ≠ c) : stepL (List.map (sgn a b c) (2 :: k1 :: rest)) a b c = List.map (sgn a b c) (rest ++ [0, 0, 0]) := by
  show stepL (c :: sgn a b c k1 :: List.map (sgn a b c) rest) a b c = _
  rw [step_c _ _ _ _ _ hac hbc, List.map_append]; rfl
theorem row_len250 {q : List Nat} {f : Nat → Nat} (h : q.length ≤ 20) : (List.map f q).length ≤ 250 := by rw [List.length_map]; omega
theorem grow_len {k0 k1 : Nat} {rest ts : List Nat} {i : Nat} (h : (k0 :: k1 :: rest).length ≤ 6 + i) (ht : ts.length ≤ 3) : (rest ++ ts).length ≤ 7 + i := by
  simp only [List.length_cons, List.length_append] at *; omega
theorem grow100 {k0 k1 : Nat} {rest ts : List Nat} (h : (k0 :: k1 :: rest).length ≤ 20) (ht : ts.length ≤ 3) : (rest ++ ts).length ≤ 100 := by
  simp only [List.length_cons, List.length_append] at *; omega
section
variable {prog : Program} {w : World} {A : Around} {E : Value → Shared → Prop} {s : Shared} {h₀ : Heap} {L l : Addr} {m : Str → Option Value} {news : List (Addr × Obj)} {value slice : PySem.Expr} {us : List Value} {cc : Nat} {Q : Value → Shared → Prop}
theorem len_use {q : List Nat} (N : News h₀ L s.heap news) (hm : (l, PySem.W.listOf us.toArray cc) ∈ news) (hr : RowIs us q) (hq : q.length ≤ 20)
    (h : Q (.int (q.length : Int) (s.toks + 1)) { s with toks := s.toks + 1 + 1 }) : wpAny (model prog w) A (call (.builtin "len") [.ref l]) Q E s :=
  kst_len N hm (rowIs_len hr) (by omega) h
theorem item0_use {x : Int} {ns : List Int} {u : Tok} (N : News h₀ L s.heap news) (hm : (l, PySem.W.listOf us.toArray cc) ∈ news) (hi : IntsAre us (x :: ns)) (h : ∀ t, Q (.int x t) s)
    (hs : subscripted slice false (.ref l) (.int 0 u) = operate [.ref l, .int 0 u] (getItem (.ref l) (.int 0 u))) :
    wpAny (model prog w) A (subscriptTail value slice (.ref l) (.int 0 u)) Q E s := by
  have hl : s.heap.IsList l us.toArray := News.isList N hm
  cases hi with
  | cons _ t hr => exact tail_any hl.typeIs slot_list_getitem.lookup (wpAny_getItem_list hl (by decide) (by decide) rfl (h t)) hs
theorem slice2_use {x y : Int} {ns : List Int} {vl : Value} {t2 : Tok} (F : Fr h₀ L s.heap m) (N : News h₀ L s.heap news) (hm : (l, PySem.W.listOf us.toArray cc) ∈ news) (hi : IntsAre us (x :: y :: ns)) (hz : ns.length ≤ 1000)
    (h : ∀ D ws h', Fr h₀ L h' m → News h₀ L h' ((D, PySem.W.listOf (List.toArray ws) 0) :: news) → (∀ p ∈ news, p.1 < D) → IntsAre ws ns → Q (.ref D) { s with heap := h' })
    (hs : subscripted slice false (.ref l) (.ref s.heap.objs.size) = operate [.ref s.heap.objs.size, .ref l] (getItem (.ref l) (.ref s.heap.objs.size))) (ht : ∀ r, letTemporaryGo value (.ref l) r = pure ()) :
    wpAny (model prog w) A (subscriptTail value slice (.ref l) (.ref s.heap.objs.size)) Q E { s with heap := s.heap.push { cls := .type "slice", data := .fields #[.int 2 t2, .none, .none] } } :=
  kmk_slice_ints F N (News.isList N hm) (IsPart.int _ _) IsPart.none hi (kmk_from hi (by decide)) rfl (fun D ws h' F' N' l1 hI _ _ => h D ws h' F' N' l1 hI) hs ht (by
    have e : sizeLine = 2 ^ 24 := rfl
    rw [List.size_toArray, hi.length]
    simp only [List.length_cons]; omega)
theorem add_use {a b : Addr} {vs ws : List Value} {ns ms : List Int} {c1 c2 : Nat} (F : Fr h₀ L s.heap m) (N : News h₀ L s.heap news) (ha : (a, PySem.W.listOf vs.toArray c1) ∈ news) (hb : (b, PySem.W.listOf ws.toArray c2) ∈ news) (hi : IntsAre vs ns) (hj : IntsAre ws ms) (hn : ns.length ≤ 1000) (hm : ms.length ≤ 1000)
    (h : ∀ D us h', Fr h₀ L h' m → News h₀ L h' ((D, PySem.W.listOf (List.toArray us) 0) :: news) → (∀ p ∈ news, p.1 < D) → IntsAre us (ns ++ ms) → Q (.ref D) { s with heap := h' }) :
    wpAny (model prog w) A (binaryOp .Add (.ref a) (.ref b)) Q E s :=
  kmk_add_ints F N (News.isList N ha) (News.isList N hb) hi hj h (by
    have e : sizeLine = 2 ^ 24 := rfl
    omega)
end
theorem ic_len {k0 k1 : Nat} {rest : List Nat} (h : (k0 :: k1 :: rest).length ≤ 20) : (ic rest).length ≤ 1000 := by
  rw [List.length_map]; simp only [List.length_cons] at h; omega
theorem i12 {t u : Tok} : IntsAre [Value.int 1 t, Value.int 2 u] (ic [1, 2]) := .cons _ _ (.cons _ _ .nil)
theorem i0 {t : Tok} : IntsAre [Value.int 0 t] (ic [0]) := .cons _ _ .nil
theorem i000 {t u v : Tok} : IntsAre [Value.int 0 t, Value.int 0 u, Value.int 0 v] (ic [0, 0, 0]) := .cons _ _ (.cons _ _ (.cons _ _ .nil))
theorem small12 : ∀ k ∈ [1, 2], k < 3 := by decide
theorem small0 : ∀ k ∈ [0], k < 3 := by decide
theorem small000 : ∀ k ∈ [0, 0, 0], k < 3 := by decide
end Mine
-- part E0
namespace Mine
open PySem PySem.W PyProof.Rows PySem.Calls PyProof.V PySem.Spec
def Stop (P : Prop) : Prop := P
theorem stop_in {P : Prop} (h : Stop P) : P := h
theorem stop_out {P : Prop} (h : P) : Stop P := h
def Gone : Prop := True
def tl1 : List Stmt → List Stmt
  | _ :: r => r
  | [] => []
def fB : List Stmt → List Stmt
  | .For _ _ b _ _ :: _ => b
  | _ => []
def bodyOf (o : Obj) : List Stmt := match o.data with
  | .func f => (match f.body with
    | .stmts b => b
    | _ => [])
  | _ => []
def scopeOf (o : Obj) : Scope := match o.data with
  | .func f => f.scope
  | _ => default
theorem with_obj {P : Obj → Prop} {l : Option Obj} {o' : Obj} (e : l = some o') (h : P o') : ∀ o, l = some o → P o := by
  intro o ho
  rw [e] at ho
  exact Option.some.inj ho ▸ h
theorem with_obj2 {P : Obj → Prop} {l : Option Obj} {o' : Obj} (e : l = some o') (h : l = some o' → P o') : ∀ o, l = some o → P o := by
  intro o ho
  have h' := h e
  rw [e] at ho
  exact Option.some.inj ho ▸ h'
theorem have_obj {K : Frag} {h₀ : Heap} {G : Prop} (hX : K.In h₀) {o' : Obj} (e : K.lookup 140 = some o') (h : K.lookup 140 = some o' → G) : G := h e
theorem shrink3 {h₀ : Heap} {L : Addr} {h : Heap} {ledger tail : List (Addr × Obj)} {I r1 r5 : Addr} {oI : Obj} {us us5 : List Value} {cc cc5 : Nat} {q5 : List Nat}
    (hne : ∀ p ∈ (r1, PySem.W.listOf us.toArray cc) :: tail, p.1 ≠ I) (hRow : RowIs us5 q5) (N : News h₀ L h ledger) (hI : (I, oI) ∈ ledger) (hr : (r5, PySem.W.listOf us5.toArray cc5) ∈ ledger) (hs : ∀ p ∈ tail, p ∈ ledger) :
    News h₀ L h ((I, oI) :: (r5, PySem.W.listOf us5.toArray cc5) :: tail) := by
  intro p hp
  rcases List.mem_cons.mp hp with rfl | hp
  · exact N _ hI
  · rcases List.mem_cons.mp hp with rfl | hp
    · exact N _ hr
    · exact N p (hs p hp)
end Mine
-- part T3
namespace Mine
open PySem PySem.W PyProof.Rows
local macro_rules | `(tactic| walk_at "exec For Name Call cons nil") => `(tactic| (k_here; (rename Fr _ _ _ _ => lF'); (with_unfolding_all refine' For_invVF lF' ?k1 ?k2 ?_; (case k1 => exact rfl); (case k2 => exact rfl); k_whole)))
local macro_rules | `(tactic| walk_at "compareOp NotEq str str") => `(tactic| (k_here; (refine ne_same ?h ?_; (case h => first | rfl | exact tx_rep1 _))))
local macro_rules | `(tactic| walk_at "call builtin:str.join") => `(tactic| (k_here; k_dflt (refine' join_use ?k1 ?k2 ?k3 ?k4 ?_; (case k1 => k_asm); (case k2 => k_mem); (case k3 => assumption); (case k4 => first | assumption | exact len_le100 (by assumption)); k_whole); intro _ _))
local macro_rules | `(tactic| walk_at "call ref") => `(tactic| (k_here; k_dflt (refine' step_use ?k1 ?k2 ?k3 ?k4 ?k5 ?k6 ?sg ?k7 ?k8 ?hl ?hs ?_; (case k1 => k_asm); (case k2 => k_asm); (case k3 => k_asm); (case k4 => k_asm); (case k5 => k_asm); (case k6 => first | exact rfl | assumption); (case sg => k_mem); (case k7 => first | decide | ktr_room); (case k8 => first | decide | ktr_units); (case hl => exact row_len250 (by assumption)); (case hs => first | exact step_row0 | exact step_row1 (by assumption) | exact step_row2 (by assumption) (by assumption)); k_whole; intro t9 h9 tk9 F9 N9; (try dsimp only); (try k_fold))))
local macro_rules | `(tactic| walk_at "call builtin:len") => `(tactic| (k_here; (with_reducible show wpAny _ _ (call (Value.builtin "len") [Value.ref _]) _ _ _); k_dflt (refine' len_use ?k1 ?k2 ?k3 ?k4 ?_; (case k1 => k_asm); (case k2 => k_mem); (case k3 => assumption); (case k4 => assumption); k_whole)))
local macro_rules | `(tactic| walk_at "subscriptTail Name Constant ref int") => `(tactic| (k_here; (with_reducible show wpAny _ _ (subscriptTail _ _ (Value.ref _) (Value.int _ _)) _ _ _); k_dflt (refine' item0_use ?k1 ?k2 ?k3 ?_ ?k4; (case k1 => k_asm); (case k2 => k_mem); (case k3 => assumption); (case k4 => with_unfolding_all rfl); k_whole); intro _))
local macro_rules | `(tactic| walk_at "subscriptTail Name Slice ref ref") => `(tactic| (k_here; (with_reducible show wpAny _ _ (subscriptTail _ (PySem.Expr.Slice _ _ none _) (Value.ref _) (Value.ref _)) _ _ _); k_dflt (refine' slice2_use ?k1 ?k2 ?k3 ?k4 ?k5 ?_ ?k6 ?k7; (case k1 => k_asm); (case k2 => k_asm); (case k3 => k_mem); (case k4 => assumption); (case k5 => exact ic_len (by assumption)); (case k6 => with_unfolding_all rfl); (case k7 => (intro _; with_unfolding_all rfl)); k_whole); intro D' ws' h' F' N' l1 hI'; (try clear l1); (try k_sweep)))
local macro_rules | `(tactic| walk_at "binaryOp Add ref ref") => `(tactic| (k_here; (with_reducible show wpAny _ _ (binaryOp _ (Value.ref _) (Value.ref _)) _ _ _); k_dflt (refine' add_use ?k1 ?k2 ?k3 ?k4 ?k5 ?k6 ?k7 ?k8 ?_; (case k1 => k_asm); (case k2 => k_asm); (case k3 => k_mem); (case k4 => k_mem); (case k5 => assumption); (case k6 => first | exact i12 | exact i000 | exact i0); (case k7 => exact ic_len (by assumption)); (case k8 => decide); k_whole); intro D' ws' h' F' N' l1 hI'; (try clear l1); (try k_sweep)))
local macro_rules | `(tactic| walk_at "exec Assign cons Tuple") => `(tactic| ((fail_if_success (with_reducible rename Gone => gone9)); refine stop_in ?_))
local macro_rules | `(tactic| walk_at "CompSrc") => `(tactic| (refine stop_in ?_))
local macro_rules | `(tactic| walk_at "CompEnd") => `(tactic| (k_here; k_dflt (exact txt_end (by assumption) (by assumption) (by assumption) (by k_mem) ⟨_, rfl⟩)))
set_option maxRecDepth 100000 in
set_option maxHeartbeats 8000000 in
theorem turn3 {w : World} {loose : List Str} {mean : ExcName → Option Value} {mg mb : Str → Option Value} {h₀ : Heap} {L fa : Addr} {cd : Value} {s : Shared}
    (K0 : Below callerA h₀ [] h₀) (X : (hd.heap_39 w.params).In h₀) (TT : Top hd.view_39 loose mean mg mb h₀)
    {a b c : Nat} (hab : a ≠ b) (hac : a ≠ c) (hbc : b ≠ c) {sg y2 y3 : Addr} {ta tb tc : Tok} {z2 z3 o5 o1 : Obj} (d1 : o1.data = .cell (some (.ref sg)))
    {r1 : Addr} {us : List Value} {cc : Nat} {q : List Nat} {tT : Tok} {i : Nat} {t : Tok} {u : Str → Option Value} {h : Heap} {tk : Nat} {I : Addr} {oI : Obj} {E : Value → Shared → Prop}
    (hi : i < 14) (hrow : RowIs us q) (hlen : q.length ≤ 6 + i) (hne : ∀ p ∈ (r1, PySem.W.listOf us.toArray cc) :: [(sg, PySem.W.listOf #[.str (tx [a]) ta, .str (tx [b]) tb, .str (tx [c]) tc] 3), (y2, z2), (y3, z3), (L + 1 + 1, o1), (L + 1, o5)], p.1 ≠ I)
    (F : Fr h₀ L h (fun y => if y = Str.ofString "turn" then some (.int (0 + (i : Int)) t) else if y = Str.ofString "row" then some (.ref r1) else if y = Str.ofString "text" then some (.str (tx (q.map (sgn a b c))) tT) else u y))
    (N : News h₀ L h ((I, oI) :: (r1, PySem.W.listOf us.toArray cc) :: [(sg, PySem.W.listOf #[.str (tx [a]) ta, .str (tx [b]) tb, .str (tx [c]) tc] 3), (y2, z2), (y3, z3), (L + 1 + 1, o1), (L + 1, o5)])) :
    ∀ o, (hd.heap_39 w.params).lookup 140 = some o → ∀ body scope, fB (tl1 (tl1 (tl1 (tl1 (tl1 (tl1 (tl1 (tl1 (bodyOf o))))))))) = body → scopeOf o = scope →
    wpAny (model PySem.Challenge.rw_xm0025_01.row.prog w) (callerA.deeper (envOfC (Str.ofString "law") scope L fa cd)) (execs body (envOfC (Str.ofString "law") scope L fa cd)) (R3End h₀ L a b c [(sg, PySem.W.listOf #[.str (tx [a]) ta, .str (tx [b]) tb, .str (tx [c]) tc] 3), (y2, z2), (y3, z3), (L + 1 + 1, o1), (L + 1, o5)] (7 + i) I oI { s with heap := h, toks := tk }) E { s with heap := h, toks := tk } := by
  revert X; k_fill; intro X
  w_on
  refine with_obj (by k_is) ?_
  intro body scope hb hs
  dsimp only [bodyOf, scopeOf, tl1, fB, fnOf] at hb hs
  subst hb
  subst hs
  have hq20 := len14 hlen hi
  repeat' (first | (k_unfold; (try dsimp only)) | walk1 | (dsimp only; walk1))
  · dsimp only
    exact r3_brk (by k_asm) (by k_asm) (by with_unfolding_all rfl) (by with_unfolding_all rfl)
  obtain ⟨k1, rest, hrest, ⟨rfl, hI4⟩ | ⟨rfl, hI4⟩ | ⟨rfl, hI4⟩⟩ := row_cases hrow (by assumption)
  · refine stop_out ?_
    have gone : Gone := trivial
    repeat' (first | (k_unfold; (try dsimp only)) | walk1 | (dsimp only; walk1))
    refine stop_out ?_
    have hRow5 := rowIs_add (ts := [1, 2]) (by assumption) hrest small12
    have hLen5 := grow100 (ts := [1, 2]) hq20 (by decide)
    have hLen6 := grow_len (ts := [1, 2]) hlen (by decide)
    (rename Fr _ _ _ _ => F10); (rename News _ _ _ _ => N10)
    have N12 := shrink3 (oI := oI) hne hRow5 N10 (by k_mem) (by k_dflt k_mem) (by lcg_sub)
    clear N10
    refine' txtComp (a := a) (b := b) (c := c) rfl F10 N12 ?hm512 hRow5 hLen5 ?st512 ?fin512
    case hm512 => k_dflt k_mem
    case st512 =>
      rintro k kI hk ys2 t2 g2 I2 oI2 C oC D m2 h2 tk2 E2 hC hx F7 N7 off ne
      rcases hk with ⟨rfl, rfl⟩ | ⟨rfl, rfl⟩ | ⟨rfl, rfl⟩
      all_goals (try k_fold)
      all_goals (repeat' (first | (k_unfold; (try dsimp only)) | walk1 | (dsimp only; walk1)))
    rintro g5 ys5 hys5
    (try k_fold)
    repeat' (first | (k_unfold; (try dsimp only)) | walk1 | (dsimp only; walk1))
    refine' r3_next (q := rest ++ [1, 2]) ?x112 ?x212 ?x312 ?x412 ?x512 ?x612 ?x712 hRow5 hLen6
    case x112 => k_asm
    case x212 => k_asm
    case x612 => with_unfolding_all rfl
    case x712 => with_unfolding_all rfl
    case x312 => k_mem
    case x412 => k_dflt k_mem
    case x512 => lcg_sub
  · refine stop_out ?_
    have gone : Gone := trivial
    repeat' (first | (k_unfold; (try dsimp only)) | walk1 | (dsimp only; walk1))
    refine stop_out ?_
    have hRow5 := rowIs_add (ts := [0]) (by assumption) hrest small0
    have hLen5 := grow100 (ts := [0]) hq20 (by decide)
    have hLen6 := grow_len (ts := [0]) hlen (by decide)
    (rename Fr _ _ _ _ => F10); (rename News _ _ _ _ => N10)
    have N12 := shrink3 (oI := oI) hne hRow5 N10 (by k_mem) (by k_dflt k_mem) (by lcg_sub)
    clear N10
    refine' txtComp (a := a) (b := b) (c := c) rfl F10 N12 ?hm50 hRow5 hLen5 ?st50 ?fin50
    case hm50 => k_dflt k_mem
    case st50 =>
      rintro k kI hk ys2 t2 g2 I2 oI2 C oC D m2 h2 tk2 E2 hC hx F7 N7 off ne
      rcases hk with ⟨rfl, rfl⟩ | ⟨rfl, rfl⟩ | ⟨rfl, rfl⟩
      all_goals (try k_fold)
      all_goals (repeat' (first | (k_unfold; (try dsimp only)) | walk1 | (dsimp only; walk1)))
    rintro g5 ys5 hys5
    (try k_fold)
    repeat' (first | (k_unfold; (try dsimp only)) | walk1 | (dsimp only; walk1))
    refine' r3_next (q := rest ++ [0]) ?x10 ?x20 ?x30 ?x40 ?x50 ?x60 ?x70 hRow5 hLen6
    case x10 => k_asm
    case x20 => k_asm
    case x60 => with_unfolding_all rfl
    case x70 => with_unfolding_all rfl
    case x30 => k_mem
    case x40 => k_dflt k_mem
    case x50 => lcg_sub
  · refine stop_out ?_
    have gone : Gone := trivial
    repeat' (first | (k_unfold; (try dsimp only)) | walk1 | (dsimp only; walk1))
    refine stop_out ?_
    have hRow5 := rowIs_add (ts := [0, 0, 0]) (by assumption) hrest small000
    have hLen5 := grow100 (ts := [0, 0, 0]) hq20 (by decide)
    have hLen6 := grow_len (ts := [0, 0, 0]) hlen (by decide)
    (rename Fr _ _ _ _ => F10); (rename News _ _ _ _ => N10)
    have N12 := shrink3 (oI := oI) hne hRow5 N10 (by k_mem) (by k_dflt k_mem) (by lcg_sub)
    clear N10
    refine' txtComp (a := a) (b := b) (c := c) rfl F10 N12 ?hm5000 hRow5 hLen5 ?st5000 ?fin5000
    case hm5000 => k_dflt k_mem
    case st5000 =>
      rintro k kI hk ys2 t2 g2 I2 oI2 C oC D m2 h2 tk2 E2 hC hx F7 N7 off ne
      rcases hk with ⟨rfl, rfl⟩ | ⟨rfl, rfl⟩ | ⟨rfl, rfl⟩
      all_goals (try k_fold)
      all_goals (repeat' (first | (k_unfold; (try dsimp only)) | walk1 | (dsimp only; walk1)))
    rintro g5 ys5 hys5
    (try k_fold)
    repeat' (first | (k_unfold; (try dsimp only)) | walk1 | (dsimp only; walk1))
    refine' r3_next (q := rest ++ [0, 0, 0]) ?x1000 ?x2000 ?x3000 ?x4000 ?x5000 ?x6000 ?x7000 hRow5 hLen6
    case x1000 => k_asm
    case x2000 => k_asm
    case x6000 => with_unfolding_all rfl
    case x7000 => with_unfolding_all rfl
    case x3000 => k_mem
    case x4000 => k_dflt k_mem
    case x5000 => lcg_sub
end Mine
-- part T1
namespace Mine
open PySem PySem.W PyProof.Rows
local macro_rules | `(tactic| walk_at "exec For Name Call cons nil") => `(tactic| (k_here; (rename Fr _ _ _ _ => lF'); (with_unfolding_all refine' For_invVF lF' ?k1 ?k2 ?_; (case k1 => exact rfl); (case k2 => exact rfl); k_whole)))
local macro_rules | `(tactic| walk_at "call ref") => `(tactic| (k_here; k_dflt (refine' step_use ?k1 ?k2 ?k3 ?k4 ?k5 ?k6 ?sg ?k7 ?k8 ?hl ?hs ?_; (case k1 => k_asm); (case k2 => k_asm); (case k3 => k_asm); (case k4 => k_asm); (case k5 => k_asm); (case k6 => first | exact rfl | assumption); (case sg => k_mem); (case k7 => first | decide | ktr_room); (case k8 => first | decide | ktr_units); (case hl => exact due_len250 (by assumption) (by assumption)); (case hs => exact step_due (by assumption) (by assumption) (by assumption) (by assumption) (by assumption)); k_whole; intro t9 h9 tk9 F9 N9; (try dsimp only); (try k_fold))))
local macro_rules | `(tactic| walk_at "call ref") => `(tactic| (k_here; k_dflt (refine' due_use ?k1 ?k2 ?k3 ?k4 ?k5 ?k6 ?sg ?k7 ?k8 ?e1 ?e2 ?b1 ?b2 ?b3 ?b4 ?_; (case k1 => k_asm); (case k2 => k_asm); (case k3 => k_asm); (case k4 => k_asm); (case k5 => k_asm); (case k6 => first | exact rfl | assumption); (case sg => k_mem); (case k7 => first | decide | ktr_room); (case k8 => first | decide | ktr_units); (case e1 => exact rfl); (case e2 => exact one_add _); (case b1 => assumption); (case b2 => assumption); (case b3 => assumption); (case b4 => assumption); k_whole; intro t9 h9 tk9 F9 N9; (try dsimp only); (try k_fold))))
local macro_rules | `(tactic| walk_at "compareOp NotEq str str") => `(tactic| (k_here; (refine ne_same ?h ?_; (case h => first | rfl | exact tx_rep1 _))))
local macro_rules | `(tactic| walk_at "binaryOp Mult str int") => `(tactic| (k_here; (refine' mul_tx1 ?hx ?hn ?_; (case hx => first | exact nx1 (by assumption) | exact nx2 (by assumption)); (case hn => exact nx_le (by assumption))); intro _ _))
local macro_rules | `(tactic| walk_at "pyIter ref") => `(tactic| (refine stop_in ?_))
set_option maxRecDepth 100000 in
set_option maxHeartbeats 8000000 in
theorem turn1 {w : World} {loose : List Str} {mean : ExcName → Option Value} {mg mb : Str → Option Value} {h₀ : Heap} {L fa : Addr} {cd : Value} {s : Shared}
    (K0 : Below callerA h₀ [] h₀) (X : (hd.heap_39 w.params).In h₀) (TT : Top hd.view_39 loose mean mg mb h₀)
    {a b c : Nat} (hab : a ≠ b) (hac : a ≠ c) (hbc : b ≠ c) {sg y2 y3 : Addr} {ta tb tc : Tok} {z2 z3 o5 o1 : Obj} (d1 : o1.data = .cell (some (.ref sg)))
    {m0 M i : Nat} {tM tT t : Tok} {u : Str → Option Value} {h : Heap} {tk : Nat} {I : Addr} {oI : Obj} {E : Value → Shared → Prop}
    (hm0 : 1 ≤ m0) (hm1 : m0 ≤ 9) (hi : i < 14) (hP : Pi1 m0 i (M, tM, tT)) (hne : ∀ p ∈ [(sg, PySem.W.listOf #[.str (tx [a]) ta, .str (tx [b]) tb, .str (tx [c]) tc] 3), (y2, z2), (y3, z3), (L + 1 + 1, o1), (L + 1, o5)], p.1 ≠ I)
    (F : Fr h₀ L h (fun y => if y = Str.ofString "turn" then some (.int (0 + (i : Int)) t) else if y = Str.ofString "many" then some (.int (M : Int) tM) else if y = Str.ofString "text" then some (.str (tx (List.replicate M a)) tT) else u y))
    (N : News h₀ L h ((I, oI) :: [(sg, PySem.W.listOf #[.str (tx [a]) ta, .str (tx [b]) tb, .str (tx [c]) tc] 3), (y2, z2), (y3, z3), (L + 1 + 1, o1), (L + 1, o5)])) :
    ∀ o, (hd.heap_39 w.params).lookup 140 = some o → ∀ body scope, fB (tl1 (tl1 (tl1 (tl1 (bodyOf o))))) = body → scopeOf o = scope → PassesOwn (model PySem.Challenge.rw_xm0025_01.row.prog w) (callerA.deeper (envOfC (Str.ofString "law") scope L fa cd)) (envOfC (Str.ofString "law") scope L fa cd) E →
    wpAny (model PySem.Challenge.rw_xm0025_01.row.prog w) (callerA.deeper (envOfC (Str.ofString "law") scope L fa cd)) (execs body (envOfC (Str.ofString "law") scope L fa cd)) (REnd h₀ L (ps1 a) (fun _ => [(sg, PySem.W.listOf #[.str (tx [a]) ta, .str (tx [b]) tb, .str (tx [c]) tc] 3), (y2, z2), (y3, z3), (L + 1 + 1, o1), (L + 1, o5)]) (Pi1 m0 (i + 1)) (fun c => c.1 = 1) I oI { s with heap := h, toks := tk }) E { s with heap := h, toks := tk } := by
  revert X; k_fill; intro X
  w_on
  refine with_obj (by k_is) ?_
  intro body scope hb hs hE
  dsimp only [bodyOf, scopeOf, tl1, fB, fnOf] at hb hs
  subst hb
  subst hs
  have hMb := pi1_ok hm0 hm1 hi hP
  have hM1 := hMb.1
  have hM26 := hMb.2
  repeat' (first | (k_unfold; (try dsimp only)) | walk1 | (dsimp only; walk1))
  · dsimp only
    refine rend_brk (c := (M, tM, tT)) (by k_asm) N (fun p hp => .tail _ hp) (ps1_ok (by with_unfolding_all rfl) (by with_unfolding_all rfl)) ?_
    exact is_one (by assumption)
  refine stop_out ?_
  have hM2 := two_le hM1 (by assumption)
  (rename Fr _ _ _ _ => F5); (rename News _ _ _ _ => N5); (rename IsRange _ _ _ _ _ _ _ _ => rg5)
  rw [fmod2] at rg5
  refine rloopC (σ := C2) (n := M + M % 2) (ps2 M tM a b c) Pi2 (fun k => k.1 = M + M % 2) (0, tT) rfl rg5 (stepsSmall hM26) (stepsN M) F5 N5 ?hk2 rfl (fun _ h => h) ?turn2 ?cont2
  case hk2 =>
    refine List.forall_mem_cons.mpr ⟨?ka, List.forall_mem_cons.mpr ⟨?kb, List.forall_mem_nil _⟩⟩
    · with_unfolding_all rfl
    · dsimp only
      rw [due_zero]
      with_unfolding_all rfl
  case cont2 =>
    rintro ⟨d, tD⟩ u3 h3 tk3 hPo F7 N7
    dsimp only [ps2, kstB] at F7
    have hd : d = M + M % 2 := hPo
    subst hd
    rw [due_last hM2] at F7
    (try k_fold)
    repeat' (first | (k_unfold; (try dsimp only)) | walk1 | (dsimp only; walk1))
    · exact rend_out (by k_asm) (by k_asm) hne hP hM2 (nx1 (by assumption)) ⟨_, by with_unfolding_all rfl⟩ ⟨_, by with_unfolding_all rfl⟩
    · exact rend_out (by k_asm) (by k_asm) hne hP hM2 (nx2 (by assumption)) ⟨_, by with_unfolding_all rfl⟩ ⟨_, by with_unfolding_all rfl⟩
  rintro ⟨d, tD⟩ j t2 u2 h2 tk2 I2 oI2 hj hP2 hcls2 hne2 F6 N6
  dsimp only [ps2, kstB] at F6
  have hdj := pi2_eq hP2
  subst hdj
  obtain ⟨hq1, hq2, hq3, hq4⟩ := inner_facts hMb hj
  (try k_fold)
  repeat' (first | (k_unfold; (try dsimp only)) | walk1 | (dsimp only; walk1))
  exact rend_in (by k_asm) (by k_asm) hne2 (by with_unfolding_all rfl) ⟨_, by with_unfolding_all rfl⟩
end Mine
-- part T2
namespace Mine
open PySem PySem.W PyProof.Rows
theorem len_le100 {r : List Nat} (h : r.length ≤ 6) : r.length ≤ 100 := by omega
theorem le90 {q : Int} (h : q ≤ 80) : q + 1 ≤ 90 := by omega
theorem ge0 {q : Int} (h : 0 ≤ q) : 0 ≤ q + 1 := by omega
theorem le100 {q : Int} (h : q ≤ 80) : q ≤ 100 := by omega
local macro_rules | `(tactic| walk_at "call ref") => `(tactic| (k_here; k_dflt (refine' picked_use ?k1 ?k2 ?k3 ?k4 ?k5 ?k6 ?U ?l ?ne ?I ?len ?h0 ?h1 ?h2 ?h3 ?k7 ?k8 ?_; (case k1 => k_asm); (case k2 => k_asm); (case k3 => k_asm); (case k4 => k_asm); (case k5 => k_asm); (case k6 => first | exact rfl | assumption); (case U => k_updF); (case l => k_mem); (case ne => first | assumption | k_ne); (case I => first | assumption | l_ints); (case len => first | assumption | exact len_take _); (case h0 => first | decide | assumption); (case h1 => first | decide | assumption | exact le100 (by assumption)); (case h2 => decide); (case h3 => decide); (case k7 => first | decide | ktr_room); (case k8 => first | decide | ktr_units); k_whole; intro v9 t9 t8 h9 tk9 hv0 hv1 F9 N9; (try dsimp only at N9); (try dsimp only); (try k_fold))))
local macro_rules | `(tactic| walk_at "exec For Name Call cons nil") => `(tactic| (k_here; (rename Fr _ _ _ _ => lF'); (with_unfolding_all refine' For_invVF lF' ?k1 ?k2 ?_; (case k1 => exact rfl); (case k2 => exact rfl); k_whole)))
local macro_rules | `(tactic| walk_at "compareOp NotEq str str") => `(tactic| (k_here; (refine ne_same ?h ?_; (case h => first | rfl | exact tx_rep1 _))))
local macro_rules | `(tactic| walk_at "call builtin:str.join") => `(tactic| (k_here; k_dflt (refine' join_use ?k1 ?k2 ?k3 ?k4 ?_; (case k1 => k_asm); (case k2 => k_mem); (case k3 => assumption); (case k4 => first | assumption | exact len_le100 (by assumption)); k_whole); intro _ _))
local macro_rules | `(tactic| walk_at "CompSrc") => `(tactic| (refine stop_in ?_))
local macro_rules | `(tactic| walk_at "pyIter ref") => `(tactic| (refine stop_in ?_))
local macro_rules | `(tactic| walk_at "CompEnd") => `(tactic| (k_here; k_dflt (exact txt_end (by assumption) (by assumption) (by assumption) (by k_mem) ⟨_, rfl⟩)))
local macro_rules | `(tactic| walk_at "CompEnd") => `(tactic| (k_here; k_dflt (exact row_end (by assumption) (by assumption) (by assumption) rfl (by assumption) (by assumption))))
set_option maxRecDepth 100000 in
set_option maxHeartbeats 8000000 in
theorem rest1 {w : World} {loose : List Str} {mean : ExcName → Option Value} {mg mb : Str → Option Value} {h₀ : Heap} {L fa : Addr} {cd : Value} {s : Shared}
    (K0 : Below callerA h₀ [] h₀) (X : (hd.heap_39 w.params).In h₀) (TT : Top hd.view_39 loose mean mg mb h₀)
    {a b c : Nat} (hab : a ≠ b) (hac : a ≠ c) (hbc : b ≠ c) {sg bag l : Addr} {ta tb tc tb0 tM tT : Tok} {o5 o1 : Obj} (d1 : o1.data = .cell (some (.ref sg))) (d5 : o5.data = .cell (some (.ref bag)))
    {ws : List Value} {ns : List Int} {q0 : Int} (hI : IntsAre ws ns) (hns : ns.length ≤ 11) (hq0 : 0 ≤ q0) (hq1 : q0 ≤ 80) (hsb : sg ≠ bag) (hlb : l ≠ bag) (hcb : L + 1 + 1 ≠ bag) (hcb5 : L + 1 ≠ bag)
    {u : Str → Option Value} {h : Heap} {tk : Nat} {Q : Flow → Shared → Prop} {E : Value → Shared → Prop}
    (F : Fr h₀ L h (fun y => if y = Str.ofString "many" then some (.int ((1 : Nat) : Int) tM) else if y = Str.ofString "text" then some (.str (tx (List.replicate 1 a)) tT) else u y))
    (N : News h₀ L h [(sg, PySem.W.listOf #[.str (tx [a]) ta, .str (tx [b]) tb, .str (tx [c]) tc] 3), (bag, PySem.W.listOf #[.ref l, .int q0 tb0] 0), (l, PySem.W.listOf ws.toArray 0), (L + 1 + 1, o1), (L + 1, o5)])
    (ret : ∀ (h' : Heap) (tk' : Nat) (m' : Str → Option Value), Fr h₀ L h' m' → Q (.ret (.bool true)) { s with heap := h', toks := tk' }) :
    ∀ o, (hd.heap_39 w.params).lookup 140 = some o → ∀ body scope, tl1 (tl1 (tl1 (tl1 (tl1 (bodyOf o))))) = body → scopeOf o = scope → PassesOwn (model PySem.Challenge.rw_xm0025_01.row.prog w) (callerA.deeper (envOfC (Str.ofString "law") scope L fa cd)) (envOfC (Str.ofString "law") scope L fa cd) E →
    wpAny (model PySem.Challenge.rw_xm0025_01.row.prog w) (callerA.deeper (envOfC (Str.ofString "law") scope L fa cd)) (execs body (envOfC (Str.ofString "law") scope L fa cd)) Q E { s with heap := h, toks := tk } := by
  revert X; k_fill; intro X
  w_on
  refine with_obj2 (by k_is) ?_
  intro ho body scope hb hs hE
  dsimp only [bodyOf, scopeOf, tl1, fnOf] at hb hs
  subst hb
  subst hs
  repeat' (first | (k_unfold; (try dsimp only)) | walk1 | (dsimp only; walk1))
  refine stop_out ?_
  (rename Fr _ _ _ _ => F5); (rename News _ _ _ _ => N5); (rename IsRange _ _ _ _ _ _ _ _ => rg5)
  refine' rowComp rfl F5 N5 rg5 (by assumption) (by assumption) (ge0 hq0) (le90 hq1) ?st4 ?fin4
  case st4 =>
    rintro i ys q tq y ty g I oI C oC D m2 h2 tk2 E2 hq0' hq1' hC hx F6 N6 off ne
    have off2 := off
    (simp only [LCg.Off3, and_true] at off2)
    (try k_fold)
    repeat' (first | (k_unfold; (try dsimp only)) | walk1 | (dsimp only; walk1))
  rintro g ys rr q tq hrow hlen1 hlen2
  (try k_fold)
  repeat' (first | (k_unfold; (try dsimp only)) | walk1 | (dsimp only; walk1))
  refine stop_out ?_
  (rename Fr _ _ _ _ => F6); (rename News _ _ _ _ => N6)
  refine' txtComp (a := a) (b := b) (c := c) rfl F6 N6 ?hm7 hrow (Nat.le_trans hlen2 (by decide)) ?st7 ?fin7
  case hm7 => k_dflt k_mem
  case st7 =>
    rintro k kI hk ys2 t2 g2 I oI C oC D m2 h2 tk2 E2 hC hx F7 N7 off ne
    rcases hk with ⟨rfl, rfl⟩ | ⟨rfl, rfl⟩ | ⟨rfl, rfl⟩
    all_goals (try k_fold)
    all_goals (repeat' (first | (k_unfold; (try dsimp only)) | walk1 | (dsimp only; walk1)))
  rintro g3 ys3 hys3
  (try k_fold)
  repeat' (first | (k_unfold; (try dsimp only)) | walk1 | (dsimp only; walk1))
  refine stop_out ?_
  (rename Fr _ _ _ _ => F8); (rename News _ _ _ _ => N8); (rename IsRange _ _ _ _ _ _ _ _ => rg8)
  refine' rloop3 (a := a) (b := b) (c := c) (n := 14) rfl rg8 (by decide) (by rfl) F8 N8 hrow hlen2 ?e17 ?e27 ?turn7 ?cont7
  case e17 => with_unfolding_all rfl
  case e27 => with_unfolding_all rfl
  case turn7 =>
    rintro r1 us cc qq tT4 i4 t4 u4 h4 tk4 I4 oI4 hi4 hrow4 hlen4 hcls4 hne4 F9 N9
    exact turn3 K0 X TT hab hac hbc d1 hi4 hrow4 hlen4 hne4 F9 N9 _ ho _ _ rfl rfl
  rintro u9 h9 tk9 F11 N11
  (try k_fold)
  repeat' (first | (k_unfold; (try dsimp only)) | walk1 | (dsimp only; walk1))
  exact ret _ _ _ (by assumption)
end Mine
-- part M1
namespace Mine
open PySem PySem.W PyProof.Rows
local macro_rules | `(tactic| walk_at "call ref") => `(tactic| (k_here; k_dflt (refine' picked_use ?k1 ?k2 ?k3 ?k4 ?k5 ?k6 ?U ?l ?ne ?I ?len ?h0 ?h1 ?h2 ?h3 ?k7 ?k8 ?_; (case k1 => k_asm); (case k2 => k_asm); (case k3 => k_asm); (case k4 => k_asm); (case k5 => k_asm); (case k6 => first | exact rfl | assumption); (case U => k_updF); (case l => k_mem); (case ne => first | assumption | k_ne); (case I => first | assumption | l_ints); (case len => first | assumption | exact len_take _); (case h0 => first | decide | assumption); (case h1 => first | decide | assumption); (case h2 => decide); (case h3 => decide); (case k7 => first | decide | ktr_room); (case k8 => first | decide | ktr_units); k_whole; intro v9 t9 t8 h9 tk9 hv0 hv1 F9 N9; (try dsimp only at N9); (try dsimp only); (try k_fold))))
local macro_rules | `(tactic| walk_at "CompSrc") => `(tactic| (k_here; k_dflt (refine LCg.CompSrc.range (by rfl) (by k_asm) (by k_asm) (by assumption) (by first | decide | rfl) (by first | rfl | decide) (by first | size_fits | exact Nat.le_of_ble_eq_true rfl) ?_; intro g'; lcg_lit)))
local macro_rules | `(tactic| walk_at "binaryOp Mult str int") => `(tactic| (k_here; (refine mul_any ?hx ?hn ?_; (case hx => exact Nat.le_of_ble_eq_true rfl); (case hn => constructor <;> omega)); intro _ _ _))
local macro_rules | `(tactic| walk_at "exec For Name Call cons nil") => `(tactic| (k_here; (rename Fr _ _ _ _ => lF'); (with_unfolding_all refine' For_invVF lF' ?k1 ?k2 ?_; (case k1 => exact rfl); (case k2 => exact rfl); k_whole)))
local macro_rules | `(tactic| walk_at "pyIter ref") => `(tactic| (refine stop_in ?_))
set_option maxRecDepth 100000 in
set_option maxHeartbeats 8000000 in
theorem main : PySem.Challenge.rw_xm0025_01.Holds := hd (by
  k_go0; (all_goals try k_fold)
  repeat' (first | (k_unfold; (try dsimp only)) | walk1 | (dsimp only; walk1))
  refine stop_out ?_
  (rename Fr _ _ _ _ => F1); (rename News _ _ _ _ => N1); (rename IsRange _ _ _ _ _ _ _ _ => rg3)
  obtain ⟨m0, a, b, c, mm, hm0, hm1, hab, hac, hbc, F2, N2, eM, eT⟩ := prep F1 N1 (by omega) (by omega) (by omega) (by omega)
  refine have_obj (by assumption) (by k_is) ?_
  intro ho
  refine rloopC (σ := C1) (n := 14) (ps1 a) (Pi1 m0) (fun c => c.1 = 1) (m0, _, _) rfl rg3 (by decide) (by rfl) F2 N2 (ps1_ok eM eT) (pi1_zero _ _ _) (pi1_out hm0 hm1) ?turn ?cont
  case turn =>
    rintro ⟨M, tM, tT⟩ i t u h tk I oI hi hP hcls hne F4 N4
    refine' turn1 ?k1 ?k2 ?k3 hab hac hbc ?d1 hm0 hm1 hi hP hne F4 N4 _ ho _ _ rfl rfl ?po
    case k1 => k_asm
    case k2 => k_asm
    case k3 => k_asm
    case d1 => k_asm
    case po => passes_own
  rintro ⟨M, tM, tT⟩ u h tk hPo F4 N4
  dsimp only [ps1, kstB] at F4
  have hM : M = 1 := hPo
  subst hM
  (try k_unfold)
  (try dsimp only)
  refine' rest1 ?r1 ?r2 ?r3 hab hac hbc ?r4 ?r5 ?r6 (len_take _) (by decide) (by decide) ?r7 ?r8 ?r9 ?r10 F4 N4 ?r11 _ ho _ _ rfl rfl ?r12
  case r1 => k_asm
  case r2 => k_asm
  case r3 => k_asm
  case r4 => k_asm
  case r5 => k_asm
  case r6 => assumption
  case r7 => first | k_ne | (dsimp only [envOfC]; k_ne)
  case r8 => first | k_ne | (dsimp only [envOfC]; k_ne)
  case r9 => first | k_ne | (dsimp only [envOfC]; k_ne)
  case r10 => first | k_ne | (dsimp only [envOfC]; k_ne)
  case r12 => passes_own
  rintro h9 tk9 m9 F9
  (try dsimp only)
  k_steps)
end Mine
theorem PySem.Challenge.cw_xm0025_01_holds : PySem.Challenge.rw_xm0025_01.Holds :=
  Mine.main
