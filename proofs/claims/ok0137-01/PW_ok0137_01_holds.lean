import PyProof.Rows.All
import Wide.All
import OpenK.AllK
import Wide.FinOn
import Lean
import PySem.Challenge.RW_ok0137_01
set_option Elab.async false
section
open PySem PySem.W PyProof.Rows
namespace Mine
def keepAt (is : List Nat) (l : List Stmt) : List Stmt := is.filterMap fun i => l[i]?
def view : Program := { PySem.Challenge.pw_ok0137_01 with main := { PySem.Challenge.pw_ok0137_01.main with body := keepAt [0, 2, 3, 5, 7, 8, 9, 11, 12, 13, 15, 17, 18, 19, 20, 21, 22] PySem.Challenge.pw_ok0137_01.main.body } }
theorem tw_made : Nat.beq view.main.body.length 17 = true := by k_qdec
theorem left_boot {p q : Program} {loose : List Str} {Xt : Shared → Bool} {α : Type} {Yf : Shared → α} {Ya : World → α} {N : Nat} {g0 : Bool}
    (b : ∀ w : World, (fencedOpening treeTable p w N).map (fun s => (s.heap, s.gens, s.drawn, s.toks)) = some (boot_heap w.params, Array.mk [], boot_drawn, boot_toks))
    (h : ∀ (w : World) (os : OsState), (topFrom treeTable p w N ⟨boot_heap w.params, Array.mk [], boot_drawn, boot_toks, os⟩).map (fun s => (openSeen q loose (importedModules p.main.body) Xt g0 s, Yf s)) = some (openGood q loose, Ya w)) : LeftO p q loose Xt Yf Ya N g0 := fun w => by
  obtain ⟨⟨hh, gs, d, k, os⟩, e, e'⟩ := Option.map_eq_some_iff.mp (b w)
  obtain ⟨rfl, rfl, rfl, rfl⟩ : hh = boot_heap w.params ∧ gs = Array.mk [] ∧ d = boot_drawn ∧ k = boot_toks := by simpa using e'
  unfold openEnds
  rw [e]
  exact h w os
local macro_rules | `(tactic| o_head $H) => `(tactic| (
  refine holds_open (q := view) (loose := []) (Xt := fun s => xlAt view [] s && recOk (RowW.records (OpenRow.toRowW (OpenLaw.row PySem.Challenge.rw_ok0137_01))) s) (XP := XL view []) (Yf := Hook.obs $H) (Ya := Hook.val $H) (YP := Hook.says $H) (N := 4700) ?hl (Hook.of $H) (Hook.keeps $H) (fun s e => xl_of s (Bool.and_eq_true_iff.mp e).1) XL.keeps (by rfl) (by rfl) (by rfl) (fun s e => recFacts_of (Bool.and_eq_true_iff.mp e).2) (by rfl) (by first | assumption | decide +kernel) (by decide +kernel) ⟨rfl, rfl, rfl, rfl, rfl, by decide +kernel⟩ ?hw ?hc
  case hl => (refine left_boot (p := PySem.Challenge.pw_ok0137_01) (boot_open (by kernel_rfl) (by decide) (fun _ => by kernel_rfl)) ?_; intro w os; unfold topFrom; rw [PySem.W.Fast.te14082659384304107361, PySem.W.Fast.te8920871248978507458, PySem.W.Fast.te4187177175401517315, PySem.W.Fast.te5923862056798008813, PySem.W.Fast.te14364793385576792824, PySem.W.Fast.te14483651329830533851, PySem.W.Fast.te7192208620040127492]; kernel_rfl)))
set_option maxRecDepth 100000 in
set_option maxHeartbeats 8000000 in
open_top hd for PySem.Challenge.rw_ok0137_01
end Mine
end
section
open PySem PySem.W PyProof.Rows PySem.Calls
namespace Mine
abbrev Bk := List (Int × Value)
def kall (sls : List Int) (kh : Bk) : List Int → Bk → Bool × Bk
  | [], b => (true, b)
  | p :: r, b => if (valueAt b p).isSome then kall sls kh r b else match valueAt kh (sls.getD p.toNat 0) with
    | some v => kall sls kh r (stored b p v)
    | none => (false, b)
theorem kall_app {sls : List Int} {kh : Bk} : ∀ {pre r : List Int} {b c : Bk}, kall sls kh pre b = (true, c) → kall sls kh (pre ++ r) b = kall sls kh r c
  | [], _, _, _, h => by simp only [kall, Prod.mk.injEq, true_and] at h; subst h; rfl
  | p :: pre, r, b, c, h => by
    simp only [kall, List.cons_append] at h ⊢
    split
    · rename_i h1; rw [if_pos h1] at h; exact kall_app h
    · rename_i h1
      rw [if_neg h1] at h
      split at h
      · exact kall_app h
      · cases h
theorem kall_one {sls : List Int} {kh : Bk} {p : Int} {b : Bk} : kall sls kh [p] b = (if (valueAt b p).isSome then (true, b) else match valueAt kh (sls.getD p.toNat 0) with
    | some v => (true, stored b p v)
    | none => (false, b)) := by
  simp only [kall]
theorem kall_has {sls : List Int} {kh : Bk} {pre : List Int} {p : Int} {b c : Bk} (h : kall sls kh pre b = (true, c)) (h1 : (valueAt c p).isSome = true) : kall sls kh (pre ++ [p]) b = (true, c) := by
  rw [kall_app h, kall_one, if_pos h1]
theorem kall_new {sls : List Int} {kh : Bk} {pre : List Int} {p : Int} {b c : Bk} {v : Value} (h : kall sls kh pre b = (true, c)) (h1 : (valueAt c p).isSome = false) (h2 : valueAt kh (sls.getD p.toNat 0) = some v) : kall sls kh (pre ++ [p]) b = (true, stored c p v) := by
  rw [kall_app h, kall_one, if_neg (by rw [h1]; exact Bool.false_ne_true), h2]
theorem kall_off {sls : List Int} {kh : Bk} {pre post : List Int} {p : Int} {b c : Bk} (h : kall sls kh pre b = (true, c)) (h1 : (valueAt c p).isSome = false) (h2 : valueAt kh (sls.getD p.toNat 0) = none) : kall sls kh (pre ++ p :: post) b = (false, c) := by
  rw [kall_app h, kall, if_neg (by rw [h1]; exact Bool.false_ne_true), h2]
theorem stored_len {kvs : Bk} {k : Int} {v : Value} : (stored kvs k v).length ≤ kvs.length + 1 := by
  unfold stored
  split
  · simp
  · simp
theorem kall_len {sls : List Int} {kh : Bk} : ∀ {pre : List Int} {b : Bk}, (kall sls kh pre b).2.length ≤ b.length + pre.length
  | [], b => Nat.le_refl _
  | p :: pre, b => by
    simp only [kall, List.length_cons]
    split
    · exact Nat.le_trans kall_len (by omega)
    · split
      · have h := @kall_len sls kh pre (stored b p (by assumption))
        have h2 := @stored_len b p (by assumption)
        omega
      · simp
/-- a mark at which the walk stops -/
def Stop (P : Prop) : Prop := P
theorem stop {P : Prop} (h : Stop P) : P := h
end Mine

end
section
open PySem PySem.W PyProof.Rows PySem.Calls
namespace Mine
set_option maxRecDepth 100000
set_option maxHeartbeats 8000000
theorem upd_front {h₀ h : Heap} {L d : Addr} {o : Obj} {news : List (Addr × Obj)} {g : Obj → List (Addr × Obj)} (N : News h₀ L h news) (U : UpdF d o news g) :
    ∃ rest, News h₀ L h ((d, o) :: rest) ∧ (∀ p ∈ rest, p.1 ≠ d) ∧ ∀ o' h', News h₀ L h' ((d, o') :: rest) → News h₀ L h' (g o') := by
  obtain ⟨pre, post, rfl, hg, h1, h2⟩ := U.split
  refine ⟨pre ++ post, fun p hp => N p ?_, fun p hp => ?_, fun o' h' N' p hp => N' p ?_⟩
  · rcases List.mem_cons.mp hp with rfl | hp
    · simp
    · rcases List.mem_append.mp hp with hp | hp <;> simp [hp]
  · rcases List.mem_append.mp hp with hp | hp
    · exact h1 p hp
    · exact h2 p hp
  · rw [hg] at hp
    rcases List.mem_append.mp hp with hp | hp
    · simp [hp]
    · rcases List.mem_cons.mp hp with rfl | hp <;> simp_all
theorem fillIt : (PySem.Challenge.rw_ok0137_01 = PySem.Challenge.rw_ok0137_01) → (hd.heap_39 = hd.heap_39) → True := by k_fill; intros; trivial
theorem sq_ok {a : Int} (h0 : 0 ≤ a) (h1 : a < 2147483648) : IntMulOk a a := by
  refine .of_left ?_
  unfold Builtin.Int.intBits
  split
  · omega
  · rename_i h
    have ha : a.natAbs ≠ 0 := fun q => h (by simp; omega)
    have : a.natAbs.log2 < 31 := (Nat.log2_lt ha).mpr (by omega)
    omega
local macro_rules | `(tactic| walk_at "binaryOp Mult int int") => `(tactic| (k_dflt (refine' PyProof.Rows.mul_int ?z1 (sq_ok ?z2 ?z3); (case z2 => exact Int.fmod_nonneg_of_pos _ (show (0:Int) < 2147483647 by decide)); (case z3 => exact Int.lt_trans (Int.fmod_lt_of_pos _ (show (0:Int) < 2147483647 by decide)) (by decide)))))
local macro_rules | `(tactic| k_all) => `(tactic| with_reducible assumption)
theorem take_spec {prog : Program} {w : World} {dp un : Nat} {gd : Option (List Code)} {cn : Str} {cs : Scope} {a : Addr} {ccd : Value} {cl : List (Str × Addr)} {outer : List Env} {A₀ : Around} {base h₀ : Heap} {L : Addr} {m : Str → Option Value} {s : Shared}
    {Q E : Value → Shared → Prop} {p : Program} {loose : List Str} {mean : ExcName → Option Value} {mg mb : Str → Option Value} {news : List (Addr × Obj)} {g : Obj → List (Addr × Obj)} {src : Addr} {x y top : Int} {tx ty tt : Tok} {n : Nat}
    (B : Below A₀ base outer h₀) (F : Fr h₀ L s.heap m) (X : (hd.heap_39 w.params).In h₀) (N : News h₀ L s.heap news) (T : Top p loose mean mg mb h₀) (hk : cs.kind = .function)
    (U : UpdF src (listOf #[.int x tx, .int y ty] n) news g) (hx : 0 ≤ x) (hy0 : 0 ≤ y) (hy1 : y < 2147483647) (ht0 : 0 < top) (ht1 : top ≤ 9) (hdp : dp + 1 < recursionLimit) (hu : un + 8 < cLine)
    (ret : ∀ gt t x' tx' y' ty' n' h' tk', 0 ≤ gt → gt < top → 0 ≤ x' → 0 ≤ y' → y' < 2147483647 → Fr h₀ L h' m → News h₀ L h' (g (listOf #[.int x' tx', .int y' ty'] n')) → Q (.int gt t) { s with heap := h', toks := tk' }) :
    wpAny (model prog w) (ktrTop dp un gd cn cs L a ccd cl outer) (call (.ref 266) [.ref src, .int top tt]) Q E s := by
  obtain ⟨rest, N, hoff, back⟩ := upd_front N U
  clear U
  refine wpAny_call ?_
  k_dflt cell_enter
  k_steps
  · (rename News _ _ _ _ => kN); (rename Fr h₀ _ _ _ => kF)
    exact ret _ _ _ _ _ _ _ _ _ (Int.fmod_nonneg_of_pos _ ht0) (Int.fmod_lt_of_pos _ ht0) (Int.fdiv_nonneg hx (by omega)) hy0 hy1 kF (back _ _ kN)
  · (rename News _ _ _ _ => kN); (rename Fr h₀ _ _ _ => kF)
    exact ret _ _ _ _ _ _ _ _ _ (Int.fmod_nonneg_of_pos _ ht0) (Int.fmod_lt_of_pos _ ht0) hx (Int.fmod_nonneg_of_pos _ (by decide)) (Int.fmod_lt_of_pos _ (by decide)) kF (back _ _ kN)
end Mine

end
section
open PySem PySem.W PyProof.Rows PySem.Calls
namespace Mine
section
variable {prog : Program} {w : World} {A : Around} {E : Value → Shared → Prop} {s : Shared} {env : Env} {h₀ : Heap} {x : Str} {body : List Stmt} {Q : Flow → Shared → Prop}
/-- a loop over a list of the ledger: one object turns -/
theorem loopL {σ : Type} {l d : Addr} {vs : List Value} {ns : List Int} {nn : Nat} {m₀ : Str → Option Value} {rest : List (Addr × Obj)} (Ob : σ → Obj) (Facts : σ → Prop) (P : List Int → σ → Prop) (c₀ : σ)
    (hh : A.handled = none) (hl : (l, listOf vs.toArray nn) ∈ rest) (hi : IntsAre vs ns) (hoff : ∀ p ∈ rest, p.1 ≠ d) (F : Fr h₀ env.locals s.heap m₀) (N : News h₀ env.locals s.heap ((d, Ob c₀) :: rest)) (hf : Facts c₀) (hp : P [] c₀)
    (turn : ∀ (c : σ) pre post n t h tk tail (R : Flow → Shared → Prop), ns = pre ++ n :: post → (∀ p ∈ rest, p ∈ tail) → (∀ p ∈ tail, p.1 ≠ d) → Facts c → P pre c →
      Fr h₀ env.locals h (fun y => if y = x then some (.int n t) else m₀ y) → News h₀ env.locals h ((d, Ob c) :: tail) →
      (∀ (c' : σ) h' tk' m', Facts c' → P (pre ++ [n]) c' → Fr h₀ env.locals h' m' → (∀ z, z ≠ x → m' z = m₀ z) → News h₀ env.locals h' ((d, Ob c') :: tail) → R .next { s with heap := h', toks := tk' }) →
      (∀ v s', Q (.ret v) s' → R (.ret v) s') → wpAny (model prog w) A (execs body env) R E { s with heap := h, toks := tk })
    (done : ∀ (c : σ) (u : Str → Option Value) h tk, Facts c → P ns c → Fr h₀ env.locals h (fun y => if y = x then u y else m₀ y) → News h₀ env.locals h ((d, Ob c) :: rest) → Q .next { s with heap := h, toks := tk }) :
    wpAny (model prog w) A (pyIter (.ref l)) (fun it s₂ => LoopAtV prog w A h₀ env x body Q E it s₂) E s := by
  have fr : ∀ {h : Heap} {m₁ : Str → Option Value} {v : Value}, (∀ z, z ≠ x → m₁ z = m₀ z) → Fr h₀ env.locals h (fun y => if y = x then some v else m₁ y) → Fr h₀ env.locals h (fun y => if y = x then some v else m₀ y) := by
    intro h m₁ v e F
    have : (fun y => if y = x then some v else m₀ y) = fun y => if y = x then some v else m₁ y := by
      funext y
      by_cases q : y = x
      · simp [q]
      · simp only [if_neg q]; exact (e y q).symm
    rw [this]; exact F
  refine iter_invNL (fun i m nx => ∃ c : σ, nx = (d, Ob c) :: rest ∧ Facts c ∧ P (ns.take i) c ∧ ∀ z, z ≠ x → m z = m₀ z) hh (List.mem_cons_of_mem _ hl) hi F N ⟨c₀, rfl, hf, by simpa using hp, fun _ _ => rfl⟩ ?_ ?_
  · rintro i n t m₁ nx h tk own hn _ hown _ ⟨c, rfl, hf', hp', hm⟩ F₁ N₁
    have hs : ns.take (i + 1) = ns.take i ++ [n] := by simp [List.take_add_one, hn]
    have e : ns = ns.take i ++ n :: ns.drop (i + 1) := by
      have ht := List.take_append_drop (i + 1) ns
      rw [hs, List.append_assoc] at ht
      exact ht.symm
    rw [hs]
    refine turn c _ _ n t h tk (rest ++ own) _ e (fun p hp => List.mem_append_left _ hp) (fun p hp => ?_) hf' hp' (fr hm F₁) N₁ ?_ (fun v s' hq => hq)
    · rcases List.mem_append.mp hp with hp | hp
      · exact hoff p hp
      · exact hown p hp d (by simp)
    · intro c' h' tk' m' hf2 hp2 F2 hm2 N2
      refine ⟨h', tk', m', _, (d, Ob c') :: rest, rfl, F2, N2, fun p hp => ?_, fun p hp => by simp [hp], by simp, by simp [hl], c', rfl, hf2, hp2, hm2⟩
      rcases List.mem_cons.mp hp with rfl | hp
      · simp
      · simp [hp]
  · rintro m₁ nx h tk _ ⟨c, rfl, hf', hp', hm⟩ F₁ N₁
    rw [List.take_length] at hp'
    refine done c m₁ h tk hf' hp' ?_ N₁
    have : (fun y => if y = x then m₁ y else m₀ y) = m₁ := by
      funext y
      by_cases q : y = x
      · simp [q]
      · simp only [if_neg q]; exact (hm y q).symm
    rw [this]; exact F₁
/-- the same over a range -/
theorem loopR {σ : Type} {r d : Addr} {a₀ b₀ : Int} {t₀ u₀ v₀ : Tok} {n : Nat} {m₀ : Str → Option Value} {rest : List (Addr × Obj)} (Ob : σ → Obj) (Facts : σ → Prop) (P : List Int → σ → Prop) (c₀ : σ)
    (hh : A.handled = none) (hr : IsRange s.heap r a₀ b₀ 1 t₀ u₀ v₀) (hsmall : Builtin.Range.small a₀ b₀ 1 = true) (hn : Builtin.Range.rangeSize a₀ b₀ 1 = (n : Int)) (hoff : ∀ p ∈ rest, p.1 ≠ d) (F : Fr h₀ env.locals s.heap m₀) (N : News h₀ env.locals s.heap ((d, Ob c₀) :: rest)) (hf : Facts c₀) (hp : P [] c₀)
    (turn : ∀ (c : σ) (pre : List Int) (k : Int) t h tk tail (R : Flow → Shared → Prop), k = a₀ + (pre.length : Int) → pre.length < n → (∀ p ∈ rest, p ∈ tail) → (∀ p ∈ tail, p.1 ≠ d) → Facts c → P pre c →
      Fr h₀ env.locals h (fun y => if y = x then some (.int k t) else m₀ y) → News h₀ env.locals h ((d, Ob c) :: tail) →
      (∀ (c' : σ) h' tk' m', Facts c' → P (pre ++ [k]) c' → Fr h₀ env.locals h' m' → (∀ z, z ≠ x → m' z = m₀ z) → News h₀ env.locals h' ((d, Ob c') :: tail) → R .next { s with heap := h', toks := tk' }) →
      (∀ v s', Q (.ret v) s' → R (.ret v) s') → wpAny (model prog w) A (execs body env) R E { s with heap := h, toks := tk })
    (done : ∀ (c : σ) (u : Str → Option Value) h tk, Facts c → P (rangeKs a₀ n) c → Fr h₀ env.locals h (fun y => if y = x then u y else m₀ y) → News h₀ env.locals h ((d, Ob c) :: rest) → Q .next { s with heap := h, toks := tk }) :
    wpAny (model prog w) A (pyIter (.ref r)) (fun it s₂ => LoopAtV prog w A h₀ env x body Q E it s₂) E s := by
  refine kst_range (Led := fun c : σ => (d, Ob c) :: rest) (ps := fun _ => []) (Facts := Facts) (stored := []) (P := P) c₀ hh hr hsmall hn F N hf (fun _ h => nomatch h) hp ?_ ?_
  · intro c pre k t u h tk own hk hlt hown hf' hp' F₁ N₁
    have F₂ : Fr h₀ env.locals h (fun y => if y = x then some (.int k t) else m₀ y) := by
      simpa [kstB] using F₁
    refine turn c pre k t h tk (rest ++ own) _ hk hlt (fun p hp => List.mem_append_left _ hp) (fun p hp => ?_) hf' hp' F₂ N₁ ?_ (fun v s' hq => hq)
    · rcases List.mem_append.mp hp with hp | hp
      · exact hoff p hp
      · exact hown p hp d (by simp)
    · intro c' h' tk' m' hf2 hp2 F2 hm2 N2
      refine ⟨h', tk', m', _, (d, Ob c') :: rest, rfl, F2, N2, fun p hp => ?_, fun p hp => by simp [hp], by simp, c', rfl, hf2, (fun _ h => nomatch h), fun z hz _ _ => hm2 z hz, hp2⟩
      rcases List.mem_cons.mp hp with rfl | hp
      · simp
      · simp [hp]
  · intro c u h tk hf' hp' F₁ N₁
    exact done c u h tk hf' hp' (by simpa [kstB] using F₁) N₁
end
section
variable {prog : Program} {w : World} {K : Type} [DecidableEq K] {knd : KeyKind prog w K} {A : Around} {E : Value → Shared → Prop} {s : Shared} {h₀ : Heap} {L d : Addr} {m : Str → Option Value} {news : List (Addr × Obj)} {o : Obj} {kvs : List (K × Value)} {k : K} {key : Value}
theorem notin2 {Q : Value → Shared → Prop} (N : News h₀ L s.heap news) (hp : (d, o) ∈ news) (hd : o.IsDictOf knd kvs) (lo : (d == sysModules) = false) (hkey : knd.is k key = true)
    (h1 : (valueAt kvs k).isSome = true → Q (.bool false) { s with toks := s.toks + 1 }) (h2 : (valueAt kvs k).isSome = false → Q (.bool true) { s with toks := s.toks + 1 }) :
    wpAny (model prog w) A (compareOp .NotIn key (.ref d)) Q E s := by
  cases e : (valueAt kvs k).isSome with
  | true => exact kdg_notin N hp hd lo hkey true e (h1 e)
  | false => exact kdg_notin N hp hd lo hkey false e (h2 e)
theorem getItem2 {Q : Value → Shared → Prop} (N : News h₀ L s.heap news) (hp : (d, o) ∈ news) (hd : o.IsDictOf knd kvs) (hkey : knd.is k key = true) (hs : (valueAt kvs k).isSome = true)
    (h : ∀ v, valueAt kvs k = some v → Q v { s with toks := s.toks + 1 }) : wpAny (model prog w) A (getItem (.ref d) key) Q E s := by
  obtain ⟨v, e⟩ := Option.isSome_iff_exists.mp hs
  exact kdt_getItem N hp hd hkey e (h v e)
end
theorem item2 {prog : Program} {w : World} {A : Around} {E : Value → Shared → Prop} {s : Shared} {h₀ : Heap} {L l : Addr} {news : List (Addr × Obj)} {value slice : PySem.Expr} {vs : List Value} {ns : List Int} {nn : Nat} {k : Int} {u : Tok} {Q : Value → Shared → Prop}
    (N : News h₀ L s.heap news) (hm : (l, listOf vs.toArray nn) ∈ news) (hi : IntsAre vs ns) (h0 : 0 ≤ k ∧ k < (ns.length : Int)) (hfit : ns.length < 1000000) (h : ∀ t, Q (.int (ns.getD k.toNat 0) t) s)
    (hs : subscripted slice false (.ref l) (.int k u) = operate [.ref l, .int k u] (getItem (.ref l) (.int k u)) := by with_unfolding_all rfl) :
    wpAny (model prog w) A (subscriptTail value slice (.ref l) (.int k u)) Q E s := by
  have hl : s.heap.IsList l vs.toArray := ⟨_, (N _ hm).1, rfl, nn, rfl⟩
  have hk : k.toNat < ns.length := by omega
  obtain ⟨t, hx⟩ := hi.get k.toNat ns[k.toNat] (by simp [hk])
  have e : ns.getD k.toNat 0 = ns[k.toNat] := by simp [hk]
  refine tail_any hl.typeIs slot_list_getitem.lookup (wpAny_getItem_list hl h0.1 (by omega) (by simpa using hx) ?_) hs
  rw [← e]; exact h t
section
variable {prog : Program} {w : World} {A : Around} {s : Shared} {env : Env} {h₀ : Heap} {L : Addr} {m : Str → Option Value} {x : Str} {elt ct : Expr} {scope : Scope} {cl : List (Str × Addr)} {S : List (Addr × Obj) → Prop} {P : Nat → Value → Prop} {Fin : List Value → List (Addr × Obj) → Prop} {news : List (Addr × Obj)}
/-- a comprehension by what holds of the items so far and of the ledger -/
theorem crest (J : Nat → List Value → List (Addr × Obj) → Prop) {n : Nat} (h0 : J 0 [] news)
    (turn : ∀ i v I oI C oC D m₂ ys nw h tk (E' R : Value → Shared → Prop), i < n → P i v → J i ys nw → LCg.NsObj oC m₂ → m₂ x = some v → Fr h₀ L h m → News h₀ L h ((I, oI) :: (C, oC) :: (D, LCg.lst ys) :: nw) → LCg.Off3 I C D nw → ((@Ne Nat I C) ∧ (@Ne Nat I D) ∧ (@Ne Nat C D)) →
      (∀ y h' tk' nw', Fr h₀ L h' m → News h₀ L h' ((I, oI) :: (C, oC) :: (D, LCg.lst ys) :: nw') → LCg.Off3 I C D nw' → S nw' → J (i + 1) (ys ++ [y]) nw' → R y { s with heap := h', toks := tk' }) →
      wpAny (model prog w) A (eval elt (compEnvC scope cl C env)) R E' { s with heap := h, toks := tk })
    (fin : ∀ ys nw, J n ys nw → Fin ys nw) : LCg.CompRest prog w A h₀ L m env elt x scope cl s S P Fin n 0 [] news := by
  have key : ∀ (j i : Nat) ys nw, i + j = n → J i ys nw → LCg.CompRest prog w A h₀ L m env elt x scope cl s S P Fin j i ys nw := by
    intro j
    induction j with
    | zero => intro i ys nw hi hJ; obtain rfl : i = n := hi; exact LCg.CompRest.zero (fin ys nw hJ)
    | succ j ih =>
      intro i ys nw hi hJ
      refine LCg.CompRest.succ ?_
      intro v I oI C oC D m₂ h tk E' hv hC hx F N off ne
      exact turn i v I oI C oC D m₂ ys nw h tk E' _ (by omega) hv hJ hC hx F N off ne fun y h' tk' nw' F' N' off' hS hJ' => ⟨h', tk', nw', rfl, F', N', off', hS, ih (i + 1) _ _ (by omega) hJ'⟩
  exact key n 0 [] news (by omega) h0
/-- the same with a test -/
theorem crestT (J : Nat → List Value → List (Addr × Obj) → Prop) {n : Nat} (h0 : J 0 [] news)
    (turn : ∀ i v I oI C oC D m₂ ys nw h tk (E' : Value → Shared → Prop) (Rb : Bool → Shared → Prop), i < n → P i v → J i ys nw → LCg.NsObj oC m₂ → m₂ x = some v → Fr h₀ L h m → News h₀ L h ((I, oI) :: (C, oC) :: (D, LCg.lst ys) :: nw) → LCg.Off3 I C D nw → ((@Ne Nat I C) ∧ (@Ne Nat I D) ∧ (@Ne Nat C D)) →
      (∀ h' tk' nw', Fr h₀ L h' m → News h₀ L h' ((I, oI) :: (C, oC) :: (D, LCg.lst ys) :: nw') → LCg.Off3 I C D nw' → S nw' → J (i + 1) ys nw' → Rb false { s with heap := h', toks := tk' }) →
      (∀ s', (∀ (R : Value → Shared → Prop), (∀ y h' tk' nw', Fr h₀ L h' m → News h₀ L h' ((I, oI) :: (C, oC) :: (D, LCg.lst ys) :: nw') → LCg.Off3 I C D nw' → S nw' → J (i + 1) (ys ++ [y]) nw' → R y { s with heap := h', toks := tk' }) →
        wpAny (model prog w) A (eval elt (compEnvC scope cl C env)) R E' s') → Rb true s') →
      wpAny (model prog w) A (isTrue ct (compEnvC scope cl C env) (eval ct (compEnvC scope cl C env))) Rb E' { s with heap := h, toks := tk })
    (fin : ∀ ys nw, J n ys nw → Fin ys nw) : LCt.CompRestT prog w A h₀ L m env ct elt x scope cl s S P Fin n 0 [] news := by
  have key : ∀ (j i : Nat) ys nw, i + j = n → J i ys nw → LCt.CompRestT prog w A h₀ L m env ct elt x scope cl s S P Fin j i ys nw := by
    intro j
    induction j with
    | zero => intro i ys nw hi hJ; obtain rfl : i = n := hi; exact LCt.CompRestT.zero (fin ys nw hJ)
    | succ j ih =>
      intro i ys nw hi hJ
      refine LCt.CompRestT.succ ?_
      intro v I oI C oC D m₂ h tk E' hv hC hx F N off ne
      refine turn i v I oI C oC D m₂ ys nw h tk E' _ (by omega) hv hJ hC hx F N off ne (fun h' tk' nw' F' N' off' hS hJ' => ?_) (fun s' k => ?_)
      · rw [if_neg Bool.false_ne_true]
        exact ⟨h', tk', nw', rfl, F', N', off', hS, ih (i + 1) _ _ (by omega) hJ'⟩
      · rw [if_pos rfl]
        exact k _ fun y h' tk' nw' F' N' off' hS hJ' => ⟨h', tk', nw', rfl, F', N', off', hS, ih (i + 1) _ _ (by omega) hJ'⟩
  exact key n 0 [] news (by omega) h0
end
abbrev srcObj (x y : Int) (tx ty : Tok) (k : Nat) : Obj := listOf #[.int x tx, .int y ty] k
section
variable {prog : Program} {w : World} {A : Around} {s : Shared} {env : Env} {h₀ : Heap} {L : Addr} {m : Str → Option Value} {x : Str} {elt ct : Expr} {scope : Scope} {cl : List (Str × Addr)} {S : List (Addr × Obj) → Prop} {P : Nat → Value → Prop} {Fin : List Value → List (Addr × Obj) → Prop}
/-- a comprehension of draws -/
theorem crestS {src : Addr} {rest : List (Addr × Obj)} {x₀ y₀ : Int} {tx₀ ty₀ : Tok} {k₀ : Nat} {n : Nat} (top : Int) (hx₀ : 0 ≤ x₀) (hy₀ : 0 ≤ y₀) (hy₁ : y₀ < 2147483647) (hS : ∀ nw, S nw)
    (turn : ∀ i v I oI C oC D m₂ ys a ta b tb k h tk (E' R : Value → Shared → Prop), i < n → P i v → 0 ≤ a → 0 ≤ b → b < 2147483647 → LCg.NsObj oC m₂ → m₂ x = some v → Fr h₀ L h m → News h₀ L h ((I, oI) :: (C, oC) :: (D, LCg.lst ys) :: (src, srcObj a b ta tb k) :: rest) → LCg.Off3 I C D ((src, srcObj a b ta tb k) :: rest) → ((@Ne Nat I C) ∧ (@Ne Nat I D) ∧ (@Ne Nat C D)) →
      (∀ c tc a' ta' b' tb' k' h' tk', 0 ≤ c → c < top → 0 ≤ a' → 0 ≤ b' → b' < 2147483647 → Fr h₀ L h' m → News h₀ L h' ((I, oI) :: (C, oC) :: (D, LCg.lst ys) :: (src, srcObj a' b' ta' tb' k') :: rest) → R (.int c tc) { s with heap := h', toks := tk' }) →
      wpAny (model prog w) A (eval elt (compEnvC scope cl C env)) R E' { s with heap := h, toks := tk })
    (fin : ∀ ys ns a ta b tb k, IntsAre ys ns → ns.length = n → (∀ c ∈ ns, 0 ≤ c ∧ c < top) → 0 ≤ a → 0 ≤ b → b < 2147483647 → Fin ys ((src, srcObj a b ta tb k) :: rest)) :
    LCg.CompRest prog w A h₀ L m env elt x scope cl s S P Fin n 0 [] ((src, srcObj x₀ y₀ tx₀ ty₀ k₀) :: rest) := by
  refine crest (fun i ys nw => ∃ ns a ta b tb k, IntsAre ys ns ∧ ns.length = i ∧ (∀ c ∈ ns, 0 ≤ c ∧ c < top) ∧ 0 ≤ a ∧ 0 ≤ b ∧ b < 2147483647 ∧ nw = (src, srcObj a b ta tb k) :: rest) ⟨[], x₀, tx₀, y₀, ty₀, k₀, .nil, rfl, (fun _ h => nomatch h), hx₀, hy₀, hy₁, rfl⟩ ?_ ?_
  · rintro i v I oI C oC D m₂ ys nw h tk E' R hi hv ⟨ns, a, ta, b, tb, k, h1, h2, h3, h4, h5, h6, rfl⟩ hC hx F N off ne ret
    refine turn i v I oI C oC D m₂ ys a ta b tb k h tk E' R hi hv h4 h5 h6 hC hx F N off ne ?_
    intro c tc a' ta' b' tb' k' h' tk' c0 c1 a0 b0 b1 F' N'
    refine ret _ h' tk' _ F' N' ⟨off.1, off.2⟩ (hS _) ⟨ns ++ [c], a', ta', b', tb', k', IntsAre.append h1 (.cons c tc .nil), by simp [h2], ?_, a0, b0, b1, rfl⟩
    intro q hq
    rcases List.mem_append.mp hq with hq | hq
    · exact h3 q hq
    · obtain rfl : q = c := by simpa using hq
      exact ⟨c0, c1⟩
  · rintro ys nw ⟨ns, a, ta, b, tb, k, h1, h2, h3, h4, h5, h6, rfl⟩
    exact fin ys ns a ta b tb k h1 h2 h3 h4 h5 h6
end
theorem none_of {α : Type} {x : Option α} (h : x.isSome = false) : x = none := by cases x with
  | none => rfl
  | some _ => cases h
theorem news_tail {h₀ h : Heap} {L : Addr} {q : Addr × Obj} {rest tail : List (Addr × Obj)} (N : News h₀ L h (q :: tail)) (hs : ∀ p ∈ rest, p ∈ tail) : News h₀ L h (q :: rest) := fun p hp => by
  rcases List.mem_cons.mp hp with rfl | hp
  · exact N _ (List.mem_cons_self ..)
  · exact N _ (List.mem_cons_of_mem _ (hs _ hp))
theorem rk_split {a k : Int} {n : Nat} {pre post : List Int} (e : rangeKs a n = pre ++ post) (hk : k = a + (pre.length : Int)) (hl : pre.length < n) : ∃ post', rangeKs a n = pre ++ k :: post' := by
  cases post with
  | nil =>
    have := congrArg List.length e
    rw [rangeKs_length] at this
    simp at this
    omega
  | cons q r =>
    refine ⟨r, ?_⟩
    have h1 : (rangeKs a n)[pre.length]? = some q := by rw [e]; simp
    have h2 : (rangeKs a n)[pre.length]? = some (a + (pre.length : Int)) := by simp [rangeKs, hl]
    rw [h1] at h2
    rw [e, hk, Option.some.inj h2]
theorem upd_front3 {h₀ h : Heap} {L d : Addr} {o : Obj} {news : List (Addr × Obj)} {g : Obj → List (Addr × Obj)} (N : News h₀ L h news) (U : UpdF d o news g) :
    ∃ rest, News h₀ L h ((d, o) :: rest) ∧ (∀ p ∈ rest, p.1 ≠ d) ∧ (∀ p ∈ news, p.1 ≠ d → p ∈ rest) ∧ ∀ o' p, p ∈ g o' → p ∈ (d, o') :: rest := by
  obtain ⟨pre, post, rfl, hg, h1, h2⟩ := U.split
  refine ⟨pre ++ post, fun p hp => N p ?_, fun p hp => ?_, fun p hp hne => ?_, fun o' p hp => ?_⟩
  · rcases List.mem_cons.mp hp with rfl | hp
    · simp
    · rcases List.mem_append.mp hp with hp | hp <;> simp [hp]
  · rcases List.mem_append.mp hp with hp | hp
    · exact h1 p hp
    · exact h2 p hp
  · rcases List.mem_append.mp hp with hp | hp
    · simp [hp]
    · rcases List.mem_cons.mp hp with rfl | hp
      · exact absurd rfl hne
      · simp [hp]
  · rw [hg] at hp
    rcases List.mem_append.mp hp with hp | hp
    · simp [hp]
    · rcases List.mem_cons.mp hp with rfl | hp
      · simp
      · simp [hp]
theorem news_sub {h₀ h : Heap} {L : Addr} {l l' : List (Addr × Obj)} (N : News h₀ L h l) (hs : ∀ p ∈ l', p ∈ l) : News h₀ L h l' := fun p hp => N p (hs p hp)
theorem raised_sub {base G : Heap} {l : List Env} {e : Addr} {cls : Value} {news news' : List (Addr × Obj)} {h : Heap} (R : RaisedSN base G l e cls news h) (hs : ∀ p ∈ news', p ∈ news) : RaisedSN base G l e cls news' h := by
  obtain ⟨B, a0, h1, h2, h3, h4⟩ := R
  exact ⟨B, a0, h1, h2, fun q hq => h3 q (hs q hq), h4⟩
theorem cons_sub {q : Addr × Obj} {rest tail : List (Addr × Obj)} (hs : ∀ p ∈ rest, p ∈ tail) : ∀ p ∈ q :: rest, p ∈ q :: tail := fun p hp => by
  rcases List.mem_cons.mp hp with rfl | hp
  · exact List.mem_cons_self ..
  · exact List.mem_cons_of_mem _ (hs _ hp)
theorem upd_front2 {h₀ h : Heap} {L d : Addr} {o : Obj} {news : List (Addr × Obj)} {g : Obj → List (Addr × Obj)} (N : News h₀ L h news) (U : UpdF d o news g) :
    ∃ rest, News h₀ L h ((d, o) :: rest) ∧ (∀ p ∈ rest, p.1 ≠ d) ∧ (∀ p ∈ news, p.1 ≠ d → p ∈ rest) ∧ ∀ o' h', News h₀ L h' ((d, o') :: rest) → News h₀ L h' (g o') := by
  obtain ⟨pre, post, rfl, hg, h1, h2⟩ := U.split
  refine ⟨pre ++ post, fun p hp => N p ?_, fun p hp => ?_, fun p hp hne => ?_, fun o' h' N' p hp => N' p ?_⟩
  · rcases List.mem_cons.mp hp with rfl | hp
    · simp
    · rcases List.mem_append.mp hp with hp | hp <;> simp [hp]
  · rcases List.mem_append.mp hp with hp | hp
    · exact h1 p hp
    · exact h2 p hp
  · rcases List.mem_append.mp hp with hp | hp
    · simp [hp]
    · rcases List.mem_cons.mp hp with rfl | hp
      · exact absurd rfl hne
      · simp [hp]
  · rw [hg] at hp
    rcases List.mem_append.mp hp with hp | hp
    · simp [hp]
    · rcases List.mem_cons.mp hp with rfl | hp
      · simp
      · simp [hp]
end Mine

end
section
open PySem PySem.W PyProof.Rows PySem.Calls
namespace Mine
set_option maxRecDepth 100000
set_option maxHeartbeats 8000000
theorem fillT8 : (PySem.Challenge.rw_ok0137_01 = PySem.Challenge.rw_ok0137_01) → (hd.heap_39 = hd.heap_39) → True := by k_fill; intros; trivial
theorem lenI {prog : Program} {w : World} {A : Around} {E : Value → Shared → Prop} {s : Shared} {h₀ : Heap} {L l : Addr} {news : List (Addr × Obj)} {vs : List Value} {ns : List Int} {nn : Nat} {Q : Value → Shared → Prop}
    (N : News h₀ L s.heap news) (hm : (l, listOf vs.toArray nn) ∈ news) (hc : IntsAre vs ns) (hfit : ns.length < 1000000) (h : ∀ t tk, Q (.int (ns.length : Int) t) { s with toks := tk }) :
    wpAny (model prog w) A (call (.builtin "len") [.ref l]) Q E s := by
  have hl : s.heap.IsList l vs.toArray := ⟨_, (N _ hm).1, rfl, nn, rfl⟩
  have e : (vs.toArray.size : Int) = (ns.length : Int) := by rw [List.size_toArray, hc.length]
  refine len_list hl (by rw [e]; omega) ?_
  rw [e]; exact h _ _
local macro_rules | `(tactic| k_all) => `(tactic| with_reducible assumption)
local macro_rules | `(tactic| k_mem) => `(tactic| first | with_reducible assumption | (with_reducible exact List.mem_cons_of_mem _ (by with_reducible assumption)))
local macro_rules | `(tactic| walk_at "call builtin:len") => `(tactic| (k_here; (with_reducible show wpAny _ _ (call (Value.builtin "len") [Value.ref _]) _ _ _); k_dflt (refine' lenI ?N ?m ?i ?z ?_; (case N => k_asm); (case m => k_mem); (case i => assumption); (case z => assumption)); intro t' tk'))
local macro_rules | `(tactic| walk_at "subscriptTail") => `(tactic| (k_here; (with_reducible show wpAny _ _ (subscriptTail _ _ (Value.ref _) (Value.int _ _)) _ _ _); k_dflt (refine' item2 ?N ?m ?i ?h ?z ?_ ?s; (case N => k_asm); (case m => k_mem); (case i => assumption); (case h => exact ⟨by assumption, by assumption⟩); (case z => assumption); (case s => with_unfolding_all rfl); k_whole); intro t'))
local macro_rules | `(tactic| walk_at "call ref") => `(tactic| (k_here; (with_reducible show wpAny _ _ (call (Value.ref 266) _) _ _ _); k_dflt (refine' take_spec ?B ?F ?X ?N ?T ?hk ?U ?hx ?hy ?hy2 ?ht ?ht2 ?hd ?hu ?_; (case B => k_asm); (case F => k_asm); (case X => k_asm); (case N => k_asm); (case T => k_asm); (case hk => exact rfl); (case U => k_updF); (case hx => assumption); (case hy => assumption); (case hy2 => assumption); (case ht => omega); (case ht2 => omega); (case hd => ktr_room); (case hu => ktr_units)); intro gt' gtt' x' tx' y' ty' n' h' tk' hg0' hg1' hx' hy0' hy1' F' N'; (try dsimp only at N')))
theorem one_spec {prog : Program} {w : World} {dp un : Nat} {gd : Option (List Code)} {cn : Str} {cs : Scope} {a : Addr} {ccd : Value} {cl : List (Str × Addr)} {outer : List Env} {A₀ : Around} {base h₀ : Heap} {L : Addr} {m : Str → Option Value} {s : Shared}
    {Q E : Value → Shared → Prop} {p : Program} {loose : List Str} {mean : ExcName → Option Value} {mg mb : Str → Option Value} {news : List (Addr × Obj)} {g : Obj → List (Addr × Obj)} {src tha : Addr} {x y : Int} {tx ty : Tok} {n nn : Nat} {ths : List Value} {tl : List Int}
    (B : Below A₀ base outer h₀) (F : Fr h₀ L s.heap m) (X : (hd.heap_39 w.params).In h₀) (N : News h₀ L s.heap news) (T : Top p loose mean mg mb h₀) (hk : cs.kind = .function)
    (U : UpdF src (srcObj x y tx ty n) news g) (hth : (tha, listOf ths.toArray nn) ∈ news) (hti : IntsAre ths tl) (hne : tha ≠ src) (hl0 : 0 < tl.length) (hl1 : tl.length ≤ 9) (hx : 0 ≤ x) (hy0 : 0 ≤ y) (hy1 : y < 2147483647) (hdp : dp + 2 < recursionLimit) (hu : un + 16 < cLine)
    (ret : ∀ k t x' tx' y' ty' n' h' tk', k ∈ tl → 0 ≤ x' → 0 ≤ y' → y' < 2147483647 → Fr h₀ L h' m → News h₀ L h' (g (srcObj x' y' tx' ty' n')) → Q (.int k t) { s with heap := h', toks := tk' }) :
    wpAny (model prog w) (ktrTop dp un gd cn cs L a ccd cl outer) (call (.ref 273) [.ref src, .ref tha]) Q E s := by
  obtain ⟨rest, N, hoff, hin, back⟩ := upd_front3 N U
  replace hth := hin _ hth hne
  clear hin hne U
  have hsz9 : tl.length < 1000000 := by omega
  refine wpAny_call ?_
  k_dflt cell_enter
  k_steps
  (rename News _ _ _ _ => N9)
  exact ret _ _ _ _ _ _ _ _ _ (kso_getD (by omega)) (by assumption) (by assumption) (by assumption) (by assumption) (news_sub N9 (back _))
end Mine

end
section
open PySem PySem.W PyProof.Rows PySem.Calls
namespace Mine
set_option maxRecDepth 100000
set_option maxHeartbeats 8000000
theorem fillIt2 : (PySem.Challenge.rw_ok0137_01 = PySem.Challenge.rw_ok0137_01) → (hd.heap_39 = hd.heap_39) → True := by k_fill; intros; trivial
theorem pool_nn (c : Int) (b : Bool) : 0 ≤ (if -1 - c > c then -1 - c else c) * (if b = true then 1 else 0) := by
  refine Int.mul_nonneg ?_ ?_
  · split <;> omega
  · split <;> decide
theorem pool_spec {prog : Program} {w : World} {dp un : Nat} {gd : Option (List Code)} {cn : Str} {cs : Scope} {a : Addr} {ccd : Value} {cl : List (Str × Addr)} {outer : List Env} {A₀ : Around} {base h₀ : Heap} {L : Addr} {m : Str → Option Value} {s : Shared}
    {Q E : Value → Shared → Prop} {p : Program} {loose : List Str} {mean : ExcName → Option Value} {mg mb : Str → Option Value} {news : List (Addr × Obj)} {l : Addr} {vs : List Value} {ns : List Int} {t0 : Tok}
    (B : Below A₀ base outer h₀) (F : Fr h₀ L s.heap m) (X : (hd.heap_39 w.params).In h₀) (N : News h₀ L s.heap news) (T : Top p loose mean mg mb h₀) (hk : cs.kind = .function)
    (hl : base.IsList l vs.toArray) (hi : IntsAre vs ns) (hlen : ns.length ≤ 63) (hdp : dp + 1 < recursionLimit) (hu : un + 8 < cLine)
    (ret : ∀ D x' tx' y' ty' h' tk', 0 ≤ x' → 0 ≤ y' → y' < 2147483647 → (∀ p ∈ news, p.1 < D) → Fr h₀ L h' m → News h₀ L h' ((D, listOf #[.int x' tx', .int y' ty'] 0) :: news) → Q (.ref D) { s with heap := h', toks := tk' }) :
    wpAny (model prog w) (ktrTop dp un gd cn cs L a ccd cl outer) (call (.ref 259) [.ref l, .int 0 t0]) Q E s := by
  refine wpAny_call ?_
  k_dflt cell_enter
  k_steps
  all_goals
    (rename News _ _ _ _ => kN); (rename Fr h₀ _ _ _ => kF)
    exact ret _ _ _ _ _ _ _ (pool_nn _ _) (Int.fmod_nonneg_of_pos _ (by decide)) (Int.fmod_lt_of_pos _ (by decide)) (by assumption) kF kN
end Mine

end
section
open PySem PySem.W PyProof.Rows PySem.Calls
namespace Mine
set_option maxRecDepth 100000
set_option maxHeartbeats 8000000
theorem fillIt3 : (PySem.Challenge.rw_ok0137_01 = PySem.Challenge.rw_ok0137_01) → (hd.heap_39 = hd.heap_39) → True := by k_fill; intros; trivial
local macro_rules | `(tactic| k_all) => `(tactic| with_reducible assumption)
local macro_rules | `(tactic| walk_at "exec For Name Name cons nil") => `(tactic| (k_here; (rename Fr _ _ _ _ => lF'); (with_unfolding_all refine' For_invVF lF' ?k1 ?k2 ?_; (case k1 => exact rfl); (case k2 => exact rfl); k_whole)))
local macro_rules | `(tactic| walk_at "pyIter ref") => `(tactic| (k_here; refine stop ?_))
local macro_rules | `(tactic| walk_at "compareOp NotIn int ref") => `(tactic| (k_here; k_dflt (refine' notin2 (knd := PySem.intKind _ _) ?N ?m ?d ?lo ?ky ?_ ?_; (case N => k_asm); (case m => k_mem); (case d => k_asm); (case lo => k_asm); (case ky => exact intKind_is _ _ _ _)); (all_goals intro hv')))
local macro_rules | `(tactic| walk_at "subscriptTail") => `(tactic| (k_here; (with_reducible show wpAny _ _ (subscriptTail _ _ (Value.ref _) (Value.int _ _)) _ _ _); k_dflt (refine' kdt_tail (knd := PySem.intKind _ _) ?N ?m ?d ?_; (case N => k_asm); (case m => k_mem); (case d => k_asm); k_whole)))
local macro_rules | `(tactic| walk_at "subscriptTail") => `(tactic| (k_here; (with_reducible show wpAny _ _ (subscriptTail _ _ (Value.ref _) (Value.int _ _)) _ _ _); k_dflt (refine' item2 ?N ?m ?i ?h ?z ?_ ?s; (case N => k_asm); (case m => k_mem); (case i => assumption); (case h => assumption); (case z => assumption); (case s => with_unfolding_all rfl); k_whole); intro t'))
local macro_rules | `(tactic| walk_at "getItem ref int") => `(tactic| (k_here; k_dflt (refine' getItem2 (knd := PySem.intKind _ _) ?N ?m ?d ?ky ?s ?_; (case N => k_asm); (case m => k_mem); (case d => k_asm); (case ky => exact intKind_is _ _ _ _); (case s => k_asm); k_whole); intro v' hv'))
local macro_rules | `(tactic| walk_at "setItem ref int") => `(tactic| (k_here; k_dflt (refine' kda_set (knd := PySem.intKind _ _) ?F ?N ?U ?d (intKind_is _ _ _ _) ?z ?_; (case F => k_asm); (case N => k_asm); (case U => k_updF); (case d => k_asm); (case z => rw [sizeLine_eq]; omega)); intro h' o' F' N' hd'; (try dsimp only at N')))
local macro_rules | `(tactic| k_mem) => `(tactic| first | with_reducible assumption | (with_reducible exact List.mem_cons_of_mem _ (by with_reducible assumption)))
theorem kept_spec {prog : Program} {w : World} {dp un : Nat} {gd : Option (List Code)} {cn : Str} {cs : Scope} {a : Addr} {ccd : Value} {cl : List (Str × Addr)} {outer : List Env} {A₀ : Around} {base h₀ : Heap} {L : Addr} {m : Str → Option Value} {s : Shared}
    {Q E : Value → Shared → Prop} {p : Program} {loose : List Str} {mean : ExcName → Option Value} {mg mb : Str → Option Value} {news : List (Addr × Obj)} {g : Obj → List (Addr × Obj)} {book pl sl hl : Addr} {ob oh : Obj} {kb kh : Bk} {ps ss : List Value} {pls sls : List Int} {pn sn : Nat}
    (B : Below A₀ base outer h₀) (F : Fr h₀ L s.heap m) (X : (hd.heap_39 w.params).In h₀) (N : News h₀ L s.heap news) (T : Top p loose mean mg mb h₀) (hk : cs.kind = .function)
    (U : UpdF book ob news g) (hob : ob.IsDictOf (PySem.intKind prog w) kb) (hp : (pl, listOf ps.toArray pn) ∈ news) (hps : IntsAre ps pls) (hs : (sl, listOf ss.toArray sn) ∈ news) (hss : IntsAre ss sls) (hh : (hl, oh) ∈ news) (hoh : oh.IsDictOf (PySem.intKind prog w) kh)
    (lob : (book == sysModules) = false) (loh : (hl == sysModules) = false) (hn1 : pl ≠ book) (hn2 : sl ≠ book) (hn3 : hl ≠ book) (hpos : ∀ x ∈ pls, 0 ≤ x ∧ x < (sls.length : Int)) (hlen : kb.length + pls.length ≤ 1000) (hsl : sls.length < 1000000) (hdp : dp + 1 < recursionLimit) (hu : un + 8 < cLine)
    (ret : ∀ o' h' tk', Fr h₀ L h' m → News h₀ L h' (g o') → o'.IsDictOf (PySem.intKind prog w) (kall sls kh pls kb).2 → Q (.bool (kall sls kh pls kb).1) { s with heap := h', toks := tk' }) :
    wpAny (model prog w) (ktrTop dp un gd cn cs L a ccd cl outer) (call (.ref 287) [.ref book, .ref pl, .ref sl, .ref hl]) Q E s := by
  obtain ⟨rest, N, hoff, hin, back⟩ := upd_front2 N U
  clear U
  replace hp := hin _ hp hn1
  replace hs := hin _ hs hn2
  replace hh := hin _ hh hn3
  clear hin hn1 hn2 hn3
  refine wpAny_call ?_
  k_dflt cell_enter
  k_steps
  refine loopL (σ := Obj × Bk) (Ob := fun c => c.1) (Facts := fun c => c.1.IsDictOf (PySem.intKind prog w) c.2) (P := fun pre c => kall sls kh pre kb = (true, c.2)) (c₀ := (ob, kb)) rfl hp hps hoff (by assumption) (by assumption) hob rfl ?_ ?_
  · intro c pre post n t h tk tail R en hsub hoff2 hf2 hp2 F2 N2 fin hret
    have hs2 := hsub _ hs
    have hh2 := hsub _ hh
    have hn := hpos n (by rw [en]; simp)
    have hcl : c.2.length ≤ 1000 := by
      have := @kall_len sls kh pre kb
      rw [hp2] at this
      have e2 : pls.length = pre.length + (post.length + 1) := by rw [en]; simp
      dsimp only at this
      omega
    k_steps
    · exact fin c _ _ _ hf2 (kall_has hp2 (by assumption)) (by assumption) (fun z hz => by simp [hz]) (by assumption)
    · exact fin (_, _) _ _ _ (by assumption) (kall_new hp2 (by assumption) (by assumption)) (by assumption) (fun z hz => by simp [hz]) (by assumption)
    · dsimp only
      refine hret _ _ ?_
      dsimp only
      k_steps
      have e := kall_off (post := post) hp2 (by assumption) (none_of (by assumption))
      rw [← en] at e
      rw [show false = (kall sls kh pls kb).1 by rw [e]]
      refine ret c.1 _ _ (by assumption) (back _ _ (news_tail (by assumption) hsub)) ?_
      rw [e]; exact hf2
  · intro c u h tk hf2 hp2 F2 N2
    k_steps
    rw [show true = (kall sls kh pls kb).1 by rw [hp2]]
    refine ret c.1 _ _ (by assumption) (back _ _ (by assumption)) ?_
    rw [hp2]; exact hf2
end Mine

end
section
open PySem PySem.Spec PySem.Calls
set_option maxRecDepth 100000
namespace Mine
/-! an own exception class C under an own class P (with its own `__init__`) under a built-in one -/
section
variable {M : Model} {A : Around} {E : Value → Shared → Prop} {h : Heap} {g : Array GenState} {d : Drawn} {t : Nat} {os : OsState}
variable {nm q nm' q' : Str} {C N P NP : Addr} {bs bm bs' : List Value} {hdct hdct' : Bool} {sn sn' : List Str} {sub sub' : List Value} {ab ab' : Bool} {col col' : Option Bool} {dd dd' : Option Addr} {k0 k1 k2 k3 k5 l0 l1 l2 l3 l5 : Option Value} {B newId initId nid' : String}
variable {mN mP : Str → Option Value}
theorem has2 {X : String} {b : Bool} (hb : bm.contains (.type X) = b) : (Value.ref C :: Value.ref P :: bm).contains (.type X) = b := by
  rw [List.contains_cons, List.contains_cons, hb]; rfl
theorem look2 {name : Str} {y : Option Value} {Q : Option Value → Shared → Prop}
    (hC : h.get? C = some (excClassObj nm q C N bs (.ref P :: bm) hdct sn sub ab col dd k0 k1 k2 k3 k5 newId)) (hP : h.get? P = some (excClassObj nm' q' P NP bs' bm hdct' sn' sub' ab' col' dd' l0 l1 l2 l3 l5 nid'))
    (hn : h.Ns N mN) (hnP : h.Ns NP mP) (hbm : mroOf (.type B) = pure bm) (hB : typeLookup (.type B) name = pure y) (h0 : mN name = none)
    (hq : Q (match mP name with | some v => some v | none => y) ⟨h, g, d, t, os⟩) : wpAny M A (typeLookup (.ref C) name) Q E ⟨h, g, d, t, os⟩ := by
  have hrest : lookupAlong bm name = pure y := by rw [typeLookup_eq, hbm] at hB; exact hB
  rw [typeLookup_eq]
  refine wpAny_bind (wpAny_mroOf_exc hC ?_)
  rw [lookupAlong_cons]
  refine wpAny_bind (wpAny_classOwn_exc hC hn ?_)
  rw [h0]
  dsimp only
  rw [lookupAlong_cons]
  refine wpAny_bind (wpAny_classOwn_exc hP hnP ?_)
  cases hv : mP name with
  | some v => rw [hv] at hq; exact wpAny_pure hq
  | none => rw [hv] at hq; rw [hrest]; exact wpAny_pure hq
theorem checkNew2 (F : ExcBaseFacts B newId initId bm) {rest : List Value} {Q : Unit → Shared → Prop} (hC : h.get? C = some (excClassObj nm q C N bs (.ref P :: bm) hdct sn sub ab col dd k0 k1 k2 k3 k5 newId))
    (hq : Q () ⟨h, g, d, t, os⟩) : wpAny M A (checkBuiltinCall newId ⟨.ref C :: rest, []⟩) Q E ⟨h, g, d, t, os⟩ := by
  have hcont : (Value.ref C :: Value.ref P :: bm).contains (.type B) = true := has2 F.hasB
  have hstar := F.noStar
  simp only [checkBuiltinCall, F.newKind, F.newSplit, F.newRow]
  repeat (first | refine wpAny_loadPart_at hC ?_ | (refine wpAny_isSubtype_exc hC ?_; rw [hcont]) | refine wpAny_staticBase_exc hC ?_ | refine wpAny_madeBy_exc hC ?_ | simp only [bne_self_eq_false, Bool.false_eq_true, if_false] | wp_step)
  exact hq
theorem checkInit2 (F : ExcBaseFacts B newId initId bm) {e : Addr} {oe : Obj} {rest : List Value} {Q : Unit → Shared → Prop}
    (hC : h.get? C = some (excClassObj nm q C N bs (.ref P :: bm) hdct sn sub ab col dd k0 k1 k2 k3 k5 newId)) (he : h.get? e = some oe) (hcls : oe.cls = .ref C) (hq : Q () ⟨h, g, d, t, os⟩) :
    wpAny M A (checkBuiltinCall initId ⟨.ref e :: rest, []⟩) Q E ⟨h, g, d, t, os⟩ := by
  have hcB : (Value.ref C :: Value.ref P :: bm).contains (.type B) = true := has2 F.hasB
  have hshort := F.noStar
  simp only [checkBuiltinCall, F.initKind, F.initSplit, F.initRow]
  repeat (first | (with_reducible refine wpAny_loadPart_at he ?_; rw [hcls]) | with_reducible refine wpAny_loadPart_at hC ?_ | (with_reducible refine wpAny_isSubtype_exc hC ?_; rw [hcB]) | wp_step)
  refine wpAny_onRaise ?_
  rw [show ∀ (a b : String) (n : Nat), Bind.check ⟨.positional, "*", B, .self, [⟨"args", .varPos, false⟩]⟩ a b n (List.map (fun x => x.fst) ({ pos := Value.ref e :: rest } : Args).kw) = pure () from
    fun a b n => check_star_args _ _ _ _ _ _]
  exact wpAny_pure hq
end
section
variable {prog : Program} {w : World} {A : Around} {E : Value → Shared → Prop} {R : Result → Shared → Prop} {h : Heap} {g : Array GenState} {d : Drawn} {t : Nat} {os : OsState}
variable {nm q nm' q' : Str} {C N P NP : Addr} {bs bm bs' : List Value} {hdct hdct' : Bool} {sn sn' : List Str} {sub sub' : List Value} {ab ab' : Bool} {col col' : Option Bool} {dd dd' : Option Addr} {k0 k1 k2 k3 k5 l0 l1 l2 l3 l5 : Option Value} {B newId initId nid' : String}
variable {mN mP : Str → Option Value}
theorem new2 (F : ExcBaseFacts B newId initId bm) {rest : List Value} (hC : h.get? C = some (excClassObj nm q C N bs (.ref P :: bm) hdct sn sub ab col dd k0 k1 k2 k3 k5 newId))
    (hq : R (.ok (.ret (.ref (h.objs.size + 1)))) ⟨(h.push { cls := .type "tuple", data := .seq rest.toArray }).push
      { cls := .ref C, data := .fields #[.ref h.objs.size, .none, .none, .none, .bool false, .none] }, g, d, t, os⟩) (hrest : rest.length ≤ sizeLine := by size_fits) :
    codeAny (model prog w) A (.builtin newId ⟨.ref C :: rest, []⟩) R ⟨h, g, d, t, os⟩ := by
  have hends := F.ends
  have hcB : (Value.ref C :: Value.ref P :: bm).contains (.type B) = true := has2 F.hasB
  have hcA : (Value.ref C :: Value.ref P :: bm).contains (.type "AttributeError") = false := has2 F.noAttr
  have hcN : (Value.ref C :: Value.ref P :: bm).contains (.type "NameError") = false := has2 F.noName
  refine codeAny_builtinAt F.entry ?_
  unfold Builtin.«BaseException.__new__»
  refine wpAt_bind ?_
  show wpAt _ _ _ (stack >>= _) _ _ _
  refine wpAt_bind (wpAt_stack fun p below => wpAt_of_wpAny ?_)
  wp_walk
  refine wpAt_of_wpAny ?_
  rw [F.owner]
  repeat (first | with_reducible refine wpAny_madeHere_exc F.canon hC ?_ | with_reducible refine wpAny_loadPart_at hC ?_ | (with_reducible refine wpAny_isSubtype_exc hC ?_; first | rw [hcB] | rw [hcA] | rw [hcN]) | wp_step)
  show R _ _
  rw [Heap.size_push]
  exact hq
theorem typeCall2 (F : ExcBaseFacts B newId initId bm) {rest : List Value} {fI : Addr} {oI : Obj} {Q : Fin → Shared → Prop}
    (hC : h.get? C = some (excClassObj nm q C N bs (.ref P :: bm) hdct sn sub ab col dd k0 k1 k2 k3 k5 newId)) (hP : h.get? P = some (excClassObj nm' q' P NP bs' bm hdct' sn' sub' ab' col' dd' l0 l1 l2 l3 l5 nid'))
    (hn : h.Ns N mN) (hnP : h.Ns NP mP) (hi0 : mN "__init__" = none) (hi : mP "__init__" = some (.ref fI))
    (hfI : h.get? fI = some oI) (hfc : oI.cls = .type "function")
    (hq : ∀ h' e, Heap.MadeExcOf h h' e (.ref C) rest →
      wpAny (model prog w) A (call (.ref fI) (.ref e :: rest)) (fun r s' => r = .none ∧ Q (.done (.ret (.ref e))) s') E ⟨h', g, d, t, os⟩) (hrest : rest.length ≤ sizeLine := by size_fits) :
    wpAny (model prog w) A (Builtin.«type.__call__» ⟨.ref C :: rest, []⟩) Q E ⟨h, g, d, t, os⟩ := by
  repeat (first | with_reducible refine wpAny_loadPart_at hC ?_ | with_reducible refine wpAny_madeBy_exc hC ?_ | wp_step)
  refine codeAny_call_builtin_code (Code.quiet_builtin _ F.quiet) (checkNew2 F hC ?_)
  refine new2 F hC ?_ hrest
  show wpAny _ _ _ _ _ _
  have up : ∀ b o, h.get? b = some o → ((h.push { cls := .type "tuple", data := .seq rest.toArray }).push { cls := .ref C, data := .fields #[.ref h.objs.size, .none, .none, .none, .bool false, .none] }).get? b = some o :=
    fun b o e => Heap.get?_push_of_some _ (Heap.get?_push_of_some _ e)
  have hC₁ := up _ _ hC
  have hP₁ := up _ _ hP
  have hfI₁ := up _ _ hfI
  have hn₁ := hn.keeps up
  have hnP₁ := hnP.keeps up
  have hget : ((h.push { cls := .type "tuple", data := .seq rest.toArray }).push
      { cls := .ref C, data := .fields #[.ref h.objs.size, .none, .none, .none, .bool false, .none] }).get? (h.objs.size + 1) = some
      { cls := .ref C, data := .fields #[.ref h.objs.size, .none, .none, .none, .bool false, .none] } := by heap_get
  have hcC : (Value.ref C :: Value.ref P :: bm).contains (.ref C) = true := by simp
  unfold isInstance
  repeat (first | with_reducible refine wpAny_loadPart_at hget ?_ | (with_reducible refine wpAny_isSubtype_exc hC₁ ?_; rw [hcC]) | wp_step)
  show wpAny _ _ (typeLookup (.ref C) _) _ _ _
  refine look2 hC₁ hP₁ hn₁ hnP₁ F.mroIs F.init.lookup hi0 ?_
  rw [hi]
  refine wpAny_holding (wpAny_bind ?_)
  unfold bindSpecial
  refine wpAny_bind (wpAny_typeOf (T := "function") ⟨_, hfI₁, hfc⟩ ?_)
  rw [if_pos (by decide)]
  refine wpAny_pure (wpAny_bind (wpAny_mono (hq _ (h.objs.size + 1) ⟨up, Heap.get?_none_of_le (Nat.le_succ _), h.objs.size, hget, Heap.get?_none_of_le (Nat.le_refl _), ?_⟩) (fun r s' hr => ?_) fun _ _ x => x))
  · exact Heap.get?_push_of_some _ (Heap.get?_push_at rfl rfl)
  · obtain ⟨rfl, hQ⟩ := hr
    wp_walk
    exact hQ
theorem callExc2 (F : ExcBaseFacts B newId initId bm) {rest : List Value} {fI : Addr} {oI : Obj} {Q : Value → Shared → Prop}
    (hC : h.get? C = some (excClassObj nm q C N bs (.ref P :: bm) hdct sn sub ab col dd k0 k1 k2 k3 k5 newId)) (hP : h.get? P = some (excClassObj nm' q' P NP bs' bm hdct' sn' sub' ab' col' dd' l0 l1 l2 l3 l5 nid'))
    (hn : h.Ns N mN) (hnP : h.Ns NP mP) (hi0 : mN "__init__" = none) (hi : mP "__init__" = some (.ref fI))
    (hfI : h.get? fI = some oI) (hfc : oI.cls = .type "function")
    (hq : ∀ h' e, Heap.MadeExcOf h h' e (.ref C) rest →
      wpAny (model prog w) (A.under (.builtin "type.__call__" ⟨.ref C :: rest, []⟩)) (call (.ref fI) (.ref e :: rest)) (fun r s' => r = .none ∧ Q (.ref e) s') E ⟨h', g, d, t, os⟩) (hrest : rest.length ≤ sizeLine := by size_fits) :
    wpAny (model prog w) A (call (.ref C) rest) Q E ⟨h, g, d, t, os⟩ := by
  have f1 := tc_lookup
  have f2 := tc_bind (.ref C)
  have hT : (⟨h, g, d, t, os⟩ : Shared).TypeIs (.ref C) "type" := ⟨_, hC, rfl⟩
  refine wpAny_call (codeAny_of_tree ?_)
  show wpAny _ _ (callAny (.ref C) _) _ _ _
  repeat (any_goals (first | assumption | with_reducible refine wpAny_loadPart_at hC ?_ | wp_step))
  refine ⟨rfl, ?_⟩
  refine codeAny_call_builtin_at (Code.quiet_builtin _ (by decide +kernel)) entry_typeCall (wpAny_check_type_call_sub hC (typeCall2 (hrest := hrest) F hC hP hn hnP hi0 hi hfI hfc fun h' e hm => ?_))
  exact hq h' e hm
end
end Mine

end
section
open PySem PySem.Spec PySem.Calls
open Builtin Builtin.ObjectAttr
set_option maxRecDepth 100000
namespace Mine
section
variable {prog : Program} {w : World} {A : Around} {E : Value → Shared → Prop} {h : Heap} {g : Array GenState} {d : Drawn} {t : Nat} {os : OsState}
variable {nm q nm' q' : Str} {C N P NP x : Addr} {bs bm bs' : List Value} {hdct' : Bool} {sn sn' : List Str} {sub sub' : List Value} {ab ab' : Bool} {col col' : Option Bool} {dd dd' : Option Addr} {k0 k1 k2 k3 k5 l0 l1 l2 l3 l5 : Option Value} {B newId nid' sa owner : String}
variable {mN mP : Str → Option Value} {name : Str} {v : Value}
theorem checkSa2 {M : Model} {o : Obj} {nameV : Value} {Q : Unit → Shared → Prop} (SF : StoreFacts B bm sa owner)
    (hC : h.get? C = some (excClassObj nm q C N bs (.ref P :: bm) true sn sub ab col dd k0 k1 k2 k3 k5 newId)) (hx : h.get? x = some o) (hc : o.cls = .ref C) (hq : Q () ⟨h, g, d, t, os⟩) :
    wpAny M A (checkBuiltinCall sa ⟨[.ref x, nameV, v], []⟩) Q E ⟨h, g, d, t, os⟩ := by
  have hcB : (Value.ref C :: Value.ref P :: bm).contains (.type owner) = true := has2 SF.hasOwner
  have ha := SF.args (.ref x) nameV v
  simp only [checkBuiltinCall, SF.kind, SF.split]
  refine wpAny_bind ?_
  · unfold isInstance
    repeat (first | (with_reducible refine wpAny_loadPart_at hx ?_; rw [hc]) | (with_reducible refine wpAny_isSubtype_exc hC ?_; rw [hcB]) | wp_step)
    cases hsig : Manifest.signature? sa with
    | none => exact wpAny_pure hq
    | some sig =>
      simp only [argsOk, hsig] at ha
      have h2 : Bind.checkArgs sa sig ⟨[.ref x, nameV, v], []⟩ = pure () := ha
      show wpAny M A (Bind.checkArgs sa sig ⟨[.ref x, nameV, v], []⟩) Q E _
      rw [h2]; exact wpAny_pure hq
theorem store2 {tk : Tok} {o : Obj} {vs : Array Value} {Q : Fin → Shared → Prop} (SF : StoreFacts B bm sa owner)
    (hC : h.get? C = some (excClassObj nm q C N bs (.ref P :: bm) true sn sub ab col dd k0 k1 k2 k3 k5 newId)) (hP : h.get? P = some (excClassObj nm' q' P NP bs' bm hdct' sn' sub' ab' col' dd' l0 l1 l2 l3 l5 nid'))
    (hn : h.Ns N mN) (hnP : h.Ns NP mP) (hna : mN name = none) (hnaP : mP name = none) (hB : typeLookup (.type B) name = pure none)
    (hx : h.get? x = some o) (hc : o.cls = .ref C) (hd0 : o.data = .fields vs) (hdn : o.dict = none)
    (hq : ∀ h' tk' dx, (∀ b ob, b ≠ x → h.get? b = some ob → h'.get? b = some ob) → h'.get? x = some { o with dict := some dx } → Q (.done (.ret .none)) ⟨h', g, d, tk', os⟩) :
    wpAny (model prog w) A (Builtin.«object.__setattr__» ⟨[.ref x, .str name tk, v], []⟩) Q E ⟨h, g, d, t, os⟩ := by
  have hpass := SF.passes (.ref x)
  unfold Builtin.«object.__setattr__»
  repeat (first | rw [refuse_eq] | (rw [refuseLoop_ref, refuseLoop_ref, hpass]) | (with_reducible refine wpAny_loadPart_at hx ?_; rw [hc]) | with_reducible refine wpAny_mroOf_exc hC ?_ | (with_reducible refine look2 hC hP hn hnP SF.mro hB hna ?_; rw [hnaP]) | wp_step)
  rw [hdn, if_neg (by simp [typeHasDict])]
  split
  · rename_i hcd
    cases hcd
  split
  · rename_i c hcd
    rw [hd0] at hcd; cases hcd
  · have hx₁ : (h.push { cls := .type "dict", data := .dict #[] }).get? x = some o := Heap.get?_push_of_some _ hx
    have hxs : x ≠ h.objs.size := Nat.ne_of_lt (Heap.lt_size hx)
    refine wpAny_bind (wpAny_alloc' ?_)
    refine wpAny_bind (wpAny_update' hx₁ ?_)
    refine wpAny_pure ?_
    have hgd : ((h.push { cls := .type "dict", data := .dict #[] }).update x fun o => { cls := o.cls, dict := some h.objs.size, data := o.data, slots := o.slots }).get? h.objs.size
        = some { cls := .type "dict", data := .dict #[] } :=
      (Heap.get?_update_ne _ _ _ _ hxs.symm).trans (Heap.get?_push_at rfl rfl)
    have hnd : ((h.push { cls := .type "dict", data := .dict #[] }).update x fun o => { cls := o.cls, dict := some h.objs.size, data := o.data, slots := o.slots }).Ns h.objs.size (fun _ => none) :=
      ⟨_, #[], _, hgd, rfl, fun e he => absurd he (by simp), fun _ => rfl⟩
    show wpAny _ _ (storeInDict h.objs.size (.str name tk) name v) _ _ _
    unfold storeInDict newKeyGuard
    refine wpAny_bind (wpAny_pure (wpAny_bind (wpAny_nsSet1 (Heap.Ns1.of_empty hnd) fun h' hn' hs => ?_)))
    obtain ⟨oD, esD, epD, hoD, hdD, hcD⟩ := hn'.count (Within.cons name v Within.nil)
    refine wpAny_bind (wpAny_lookBehind hoD (by rw [hdD]; exact pastItsLine_dict (Nat.le_trans hcD (by rw [List.length_cons, List.length_nil, sizeLine_eq]; omega))) ?_)
    wp_walk
    refine hq h' _ h.objs.size (fun b ob hbx hb => ?_) ?_
    · exact (hs.2 b (Nat.ne_of_lt (Heap.lt_size hb))).trans ((Heap.get?_update_ne _ _ _ _ hbx).trans (Heap.get?_push_of_some _ hb))
    · refine (hs.2 x hxs).trans (Heap.get?_update_self _ hx₁ ?_)
      obtain ⟨oc, od, odt, osl⟩ := o
      dsimp only at hd0
      subst hd0
      rfl
theorem setAttr2 {o : Obj} {vs : Array Value} {Q : Unit → Shared → Prop} (SF : StoreFacts B bm sa owner)
    (hC : h.get? C = some (excClassObj nm q C N bs (.ref P :: bm) true sn sub ab col dd k0 k1 k2 k3 k5 newId)) (hP : h.get? P = some (excClassObj nm' q' P NP bs' bm hdct' sn' sub' ab' col' dd' l0 l1 l2 l3 l5 nid'))
    (hn : h.Ns N mN) (hnP : h.Ns NP mP) (hns : mN "__setattr__" = none) (hnsP : mP "__setattr__" = none) (hna : mN name = none) (hnaP : mP name = none) (hB : typeLookup (.type B) name = pure none)
    (hx : h.get? x = some o) (hc : o.cls = .ref C) (hd0 : o.data = .fields vs) (hdn : o.dict = none)
    (hq : ∀ h' tk' dx, (∀ b ob, b ≠ x → h.get? b = some ob → h'.get? b = some ob) → h'.get? x = some { o with dict := some dx } → Q () ⟨h', g, d, tk', os⟩) :
    wpAny (model prog w) A (setAttr (.ref x) name v) Q E ⟨h, g, d, t, os⟩ := by
  have f3 := SF.slot.bind (.ref x)
  unfold setAttr callSpecial? specialOf
  repeat (any_goals (first | assumption | (with_reducible refine wpAny_loadPart_at hx ?_; rw [hc]) | (with_reducible refine look2 hC hP hn hnP SF.mro SF.slot.lookup hns ?_; rw [hnsP]) | wp_step))
  refine codeAny_call_builtin SF.slot.plain SF.entry (checkSa2 SF hC hx hc (store2 SF hC hP hn hnP hna hnaP hB hx hc hd0 hdn (fun h' tk' dx hk he => ?_)))
  repeat (any_goals (first | assumption | wp_step))
  exact hq h' tk' dx hk he
/-- `Exception.__init__(self, v)` of such an exception -/
theorem init2 {initId : String} {ta : Addr} {Q : Value → Shared → Prop} (F : ExcBaseFacts B newId initId bm)
    (hC : h.get? C = some (excClassObj nm q C N bs (.ref P :: bm) true sn sub ab col dd k0 k1 k2 k3 k5 newId)) (hx : h.get? x = some { cls := .ref C, data := .fields #[.ref ta, .none, .none, .none, .bool false, .none] })
    (hq : ∀ h' ta', (∀ b ob, b ≠ x → h.get? b = some ob → h'.get? b = some ob) → h'.get? x = some { cls := .ref C, data := .fields #[.ref ta', .none, .none, .none, .bool false, .none] } → Q .none ⟨h', g, d, t, os⟩) :
    wpAny (model prog w) A (call (.builtin initId) [.ref x, v]) Q E ⟨h, g, d, t, os⟩ := by
  refine wpAny_call (codeAny_call_builtin F.init.plain F.initEntry (checkInit2 F hC hx rfl ?_))
  unfold Builtin.«BaseException.__init__»
  have hx₁ := Heap.get?_push_of_some { cls := .type "tuple", data := .seq #[v] } hx
  wp_walk
  refine hq _ h.objs.size (fun b ob hb hbo => ?_) ?_
  · rw [Heap.get?_update_other _ _ (Ne.symm hb)]
    exact Heap.get?_push_of_some _ hbo
  · rw [Heap.get?_update_self _ hx₁ rfl]
    rfl
end
end Mine

end
section
open PySem PySem.W PyProof.Rows PySem.Calls
set_option maxRecDepth 100000
set_option maxHeartbeats 8000000
namespace Mine
theorem fillX2 : (PySem.Challenge.rw_ok0137_01 = PySem.Challenge.rw_ok0137_01) → (hd.heap_39 = hd.heap_39) → True := by k_fill; intros; trivial
theorem ok50 (P : Params) : nsOkIn (hd.heap_39 P) 50 = true := by kernel_rfl
theorem ok37 (P : Params) : nsOkIn (hd.heap_39 P) 37 = true := by kernel_rfl
theorem in50 (P : Params) : nsIn (hd.heap_39 P) 50 "__init__" = some none := by kernel_rfl
theorem in37 (P : Params) : nsIn (hd.heap_39 P) 37 "__init__" = some (some (.ref 35)) := by kernel_rfl
theorem sa50 (P : Params) : nsIn (hd.heap_39 P) 50 "__setattr__" = some none := by kernel_rfl
theorem sa37 (P : Params) : nsIn (hd.heap_39 P) 37 "__setattr__" = some none := by kernel_rfl
theorem me50 (P : Params) : nsIn (hd.heap_39 P) 50 "message" = some none := by kernel_rfl
theorem me37 (P : Params) : nsIn (hd.heap_39 P) 37 "message" = some none := by kernel_rfl
theorem nsMap_of_in {K : Frag} {h : Heap} {N : Addr} {x : Str} {v : Value} (X : K.In h) (e : nsOkIn K N = true) (q : nsIn K N x = some (some v)) : h.nsMap N x = some v := by
  have G : h.Ns N (h.nsMap N) := .of_isNs (isNs_of_in X e)
  generalize h.nsMap N = mp at G
  obtain ⟨o, es, ep, ho, hd, _, hf⟩ := G
  unfold nsIn at q
  split at q
  · rename_i c d es' n' sl k
    have := X _ _ k
    rw [ho] at this
    cases this
    cases hd
    split at q
    · rename_i e' he
      rw [← hf]
      unfold nsFind findBy
      rw [← Array.find?_toList, he]
      exact congrArg _ (Option.some.inj (Option.some.inj q))
    · split at q
      · cases q
      · cases q
  · cases q
theorem metaExc : typeOf (.type "Exception") = pure (.type "type") := by kernel_rfl
abbrev excObj (ta : Addr) (dx : Option Addr) : Obj := { cls := .ref 51, dict := dx, data := .fields #[.ref ta, .none, .none, .none, .bool false, .none] }
section
variable {prog : Program} {w : World} {A : Around} {E : Value → Shared → Prop} {s : Shared} {h₀ : Heap} {L e ta : Addr} {m : Str → Option Value} {news : List (Addr × Obj)} {v : Value}
theorem keepsL {h h' : Heap} {o o' : Obj} (F : Fr h₀ L h m) (N : News h₀ L h ((e, o) :: news)) (hoff : ∀ p ∈ news, p.1 ≠ e) (hk : ∀ b ob, b ≠ e → h.get? b = some ob → h'.get? b = some ob) (he : h'.get? e = some o') :
    Fr h₀ L h' m ∧ News h₀ L h' ((e, o') :: news) := by
  have n0 := N (e, o) (List.mem_cons_self ..)
  have hk' : ∀ b ob, b ∉ [e] → h.get? b = some ob → h'.get? b = some ob := fun b ob hb => hk b ob (by simpa using hb)
  refine ⟨LCg.fr_but F hk' (Ne.symm n0.2.1) n0.2.2, fun p hp => ?_⟩
  rcases List.mem_cons.mp hp with rfl | hp
  · exact ⟨he, n0.2⟩
  · have n1 := N p (List.mem_cons_of_mem _ hp)
    exact ⟨hk _ _ (hoff p hp) n1.1, n1.2⟩
theorem initL {Q : Value → Shared → Prop} (F : Fr h₀ L s.heap m) (X : (hd.heap_39 w.params).In h₀) (N : News h₀ L s.heap ((e, excObj ta none) :: news)) (hoff : ∀ p ∈ news, p.1 ≠ e)
    (h : ∀ h' ta', Fr h₀ L h' m → News h₀ L h' ((e, excObj ta' none) :: news) → Q .none { s with heap := h' }) :
    wpAny (model prog w) A (call (.builtin "Exception.__init__") [.ref e, v]) Q E s := by
  obtain ⟨hp, gs, dr, tk, os⟩ := s
  have XF := X.keeps F.keep
  have hC := XF 51 _ (show (hd.heap_39 w.params).lookup 51 = some _ by k_is)
  refine init2 PySem.F.excBase_Exception hC (N (e, excObj ta none) (List.mem_cons_self ..)).1 fun h' ta' hk he => ?_
  obtain ⟨F', N'⟩ := keepsL F N hoff hk he
  exact h h' ta' F' N'
theorem setL {Q : Unit → Shared → Prop} (F : Fr h₀ L s.heap m) (X : (hd.heap_39 w.params).In h₀) (N : News h₀ L s.heap ((e, excObj ta none) :: news)) (hoff : ∀ p ∈ news, p.1 ≠ e)
    (h : ∀ h' tk' dx, Fr h₀ L h' m → News h₀ L h' ((e, excObj ta (some dx)) :: news) → Q () { s with heap := h', toks := tk' }) :
    wpAny (model prog w) A (setAttr (.ref e) (Str.ofString "message") v) Q E s := by
  obtain ⟨hp, gs, dr, tk, os⟩ := s
  have XF := X.keeps F.keep
  have hC := XF 51 _ (show (hd.heap_39 w.params).lookup 51 = some _ by k_is)
  have hP := XF 38 _ (show (hd.heap_39 w.params).lookup 38 = some _ by k_is)
  refine setAttr2 PySem.F.store_Exception hC hP (Heap.Ns.of_isNs (isNs_of_in XF (ok50 _))) (Heap.Ns.of_isNs (isNs_of_in XF (ok37 _))) (nsMap_none_of_in XF (ok50 _) (sa50 _)) (nsMap_none_of_in XF (ok37 _) (sa37 _)) (nsMap_none_of_in XF (ok50 _) (me50 _)) (nsMap_none_of_in XF (ok37 _) (me37 _))
    (by rw [typeLookup_type, builtinLookup_eq_fast]; kernel_rfl) (N (e, excObj ta none) (List.mem_cons_self ..)).1 rfl rfl rfl fun h' tk' dx hk he => ?_
  obtain ⟨F', N'⟩ := keepsL F N hoff hk he
  exact h h' tk' dx F' N'
end
local macro_rules | `(tactic| walk_at "getMethod type:Exception") => `(tactic| (k_here; refine' method_type ?F ?X ?m (by decide +kernel) ?e ?h ?_; (case F => k_asm); (case X => k_asm); (case m => exact metaExc); (case e => k_dflt k_is); (case h => k_handed)))
local macro_rules | `(tactic| walk_at "call builtin:Exception.__init__") => `(tactic| (k_here; k_dflt (refine' initL ?F ?X ?N ?o ?_; (case F => k_asm); (case X => k_asm); (case N => k_asm); (case o => assumption)); intro h' ta' F' N'))
local macro_rules | `(tactic| walk_at "setAttr ref") => `(tactic| (k_here; k_dflt (refine' setL ?F ?X ?N ?o ?_; (case F => k_asm); (case X => k_asm); (case N => k_asm); (case o => assumption)); intro h' tk' dx' F' N'))
theorem mkexc_spec {prog : Program} {w : World} {dp un : Nat} {gd : Option (List Code)} {cn : Str} {cs : Scope} {a : Addr} {ccd : Value} {cl : List (Str × Addr)} {outer : List Env} {A₀ : Around} {base h₀ : Heap} {L : Addr} {m : Str → Option Value} {s : Shared}
    {Q E : Value → Shared → Prop} {p : Program} {loose : List Str} {mean : ExcName → Option Value} {mg mb : Str → Option Value} {news : List (Addr × Obj)} {x : Str} {xt : Tok}
    (B : Below A₀ base outer h₀) (F : Fr h₀ L s.heap m) (X : (hd.heap_39 w.params).In h₀) (N : News h₀ L s.heap news) (T : Top p loose mean mg mb h₀) (hk : cs.kind = .function) (hdp : dp + 2 < recursionLimit) (hu : un + 16 < cLine)
    (ret : ∀ e ta dx h' tk', Fr h₀ L h' m → News h₀ L h' ((e, excObj ta dx) :: news) → (∀ p ∈ news, p.1 ≠ e) → Q (.ref e) { s with heap := h', toks := tk' }) :
    wpAny (model prog w) (ktrTop dp un gd cn cs L a ccd cl outer) (call (.ref 51) [.str x xt]) Q E s := by
  obtain ⟨hp, gs, dr, tk, os⟩ := s
  have XF := X.keeps F.keep
  have hC := XF 51 _ (show (hd.heap_39 w.params).lookup 51 = some _ by k_is)
  have hP := XF 38 _ (show (hd.heap_39 w.params).lookup 38 = some _ by k_is)
  have hI := XF 35 _ (show (hd.heap_39 w.params).lookup 35 = some _ by k_is)
  refine callExc2 PySem.F.excBase_Exception hC hP (Heap.Ns.of_isNs (isNs_of_in XF (ok50 _))) (Heap.Ns.of_isNs (isNs_of_in XF (ok37 _))) (nsMap_none_of_in XF (ok50 _) (in50 _)) (nsMap_of_in XF (ok37 _) (in37 _)) hI rfl ?_
  intro h' e hm
  have up := hm.keeps
  obtain ⟨ta, he, hta, hta2⟩ := hm.there
  have F1 : Fr h₀ L h' m := F.keeps up
  have hfr : ∀ b, hp.get? b = none → h₀.get? b = none ∧ b ≠ L := fun b hb => by
    constructor
    · cases q : h₀.get? b with
      | none => rfl
      | some o => have := F.keep b o q; rw [show (Shared.heap { heap := hp, gens := gs, drawn := dr, toks := tk, os := os }) = hp from rfl, hb] at this; cases this
    · intro q
      obtain ⟨oL, _, _, hL, _⟩ := F.ns
      rw [q] at hb
      rw [show (Shared.heap { heap := hp, gens := gs, drawn := dr, toks := tk, os := os }) = hp from rfl, hb] at hL
      cases hL
  have hne : ∀ p ∈ news, p.1 ≠ e := fun p hp q => by have := (N p hp).1; rw [q] at this; rw [show (Shared.heap { heap := _, gens := gs, drawn := dr, toks := tk, os := os }) = _ from rfl, hm.new] at this; cases this
  have N1 : News h₀ L h' ((e, excObj ta none) :: news) := fun p hp => by
    rcases List.mem_cons.mp hp with rfl | hp
    · exact ⟨he, (hfr _ hm.new).2, (hfr _ hm.new).1⟩
    · exact ⟨up _ _ (N p hp).1, (N p hp).2⟩
  clear N F he hm up XF hC hP hI hfr hta hta2
  refine wpAny_call ?_
  k_dflt cell_enter
  k_steps
  exact ret _ _ _ _ _ (by assumption) (by assumption) hne
end Mine

end
section
open PySem PySem.W PyProof.Rows PySem.Calls PySem.Spec
set_option maxRecDepth 100000
set_option maxHeartbeats 8000000
namespace Mine
theorem fillX4 : (PySem.Challenge.rw_ok0137_01 = PySem.Challenge.rw_ok0137_01) → (hd.heap_39 = hd.heap_39) → True := by k_fill; intros; trivial
section
variable {M : Model} {A : Around} {E : Value → Shared → Prop} {s : Shared} {env : Env}
theorem raise51 {prog : Program} {w : World} {x : Expr} {pos : Pos} {Q : Flow → Shared → Prop} (hh : A.handled = none)
    (h : ∀ R : Value → Shared → Prop, (∀ e t dx s₁, (hd.heap_39 w.params).In s₁.heap → s₁.heap.get? e = some (excObj t dx) → E (.ref e) s₁ → R (.ref e) s₁) → wpAny (model prog w) A (eval x env) R E s) :
    wpAny (model prog w) A (exec (.Raise (some x) none pos) env) Q E s := by
  replace h := h (fun v s₁ => ∃ e t dx, v = .ref e ∧ (hd.heap_39 w.params).In s₁.heap ∧ s₁.heap.get? e = some (excObj t dx) ∧ E (.ref e) s₁) fun e t dx s₁ a b c => ⟨e, t, dx, rfl, a, b, c⟩
  rw [arm_exec_Raise]
  refine wpAny_bind (wpAny_standAt ?_)
  unfold raiseStmt
  refine wpAny_bind (wpAny_bind (wpAny_mono h (fun v s₁ h₁ => wpAny_bind (wpAny_standAt (wpAny_pure ?_))) fun _ _ x => x))
  obtain ⟨e, t, dx, rfl, X1, he, hE⟩ := h₁
  obtain ⟨hp, g, d, tk, os⟩ := s₁
  have hC := X1 51 _ (show (hd.heap_39 w.params).lookup 51 = some _ by k_is)
  have hbase : ([.ref 51, .ref 38, .type "Exception", .type "BaseException", .type "object"] : List Value).contains (.type "BaseException") = true := by decide
  repeat (first | with_reducible refine wpAny_loadPart_at he ?_ | with_reducible refine wpAny_loadPart_at hC ?_ | (with_reducible refine wpAny_isSubtype_exc hC ?_; rw [hbase]) | wp_step)
  exact wpAny_raiseNew_none hh hE
end
section
variable {M : Model} {A : Around} {E : Value → Shared → Prop} {s' : Shared} {base g g₂ : Heap} {outer : List Env} {L e : Addr} {m : Str → Option Value} {env : Env} {Q : Unit → Shared → Prop} {news : List (Addr × Obj)}
theorem mem2 {b : Addr} (hf : env.frame = some L) (hm : b ∈ (env :: outer).filterMap (·.frame)) : b = L ∨ b ∈ outer.filterMap (·.frame) := by
  obtain ⟨env', he, hf'⟩ := List.mem_filterMap.mp hm
  rcases List.mem_cons.mp he with rfl | he
  · exact .inl (Option.some.inj (hf'.symm.trans hf))
  · exact .inr (List.mem_filterMap.mpr ⟨env', he, hf'⟩)
/-- an exception passes a frame -/
theorem leave2 {cls : Value} (K : Below A base outer g) (F : Fr g L g₂ m) (hf : env.frame = some L) (R : RaisedSN base g₂ (env :: outer) e cls news s'.heap) (hsm : g₂.UpToSlots s'.heap)
    (hQ : ∀ h', RaisedSN base g outer e cls news h' → g.UpToSlots h' → Q () { s' with heap := h' }) :
    wpAny M (A.deeper env) (leaving env (.ref e)) Q E s' := by
  obtain ⟨B, a0, hB, hBG, hl, hfl⟩ := R
  refine wpAny_leaves_onW (Around.frames_deeper K.stack) hf hfl fun h' x1 x2 => ?_
  refine hQ h' ⟨B, a0, hB, fun b o q nm => hBG b o (F.keep b o q) (fun hm => ?_), fun q hq => ⟨(hl q hq).1, kts_none F.keep (hl q hq).2.1, (hl q hq).2.2⟩, x1⟩ ((Heap.UpToSlots.of_keeps F.keep).trans (hsm.trans x2))
  rcases mem2 hf hm with z | z
  · rw [z, kts_self F] at q
    cases q
  · exact nm z
/-- an exception of our own leaves the frame that raised it -/
theorem leave1st {ta : Addr} {dx : Option Addr} (K : Below A base outer g) (F : Fr g L s'.heap m) (hf : env.frame = some L) (hk : env.scope.kind = .function) (N : News g L s'.heap ((e, excObj ta dx) :: news)) (hne : ∀ q ∈ news, q.1 ≠ e)
    (hQ : ∀ h', RaisedSN base g outer e (.ref 51) news h' → g.UpToSlots h' → Q () { s' with heap := h' }) :
    wpAny M (A.deeper env) (leaving env (.ref e)) Q E s' := by
  have K' := pushX K F hf hk
  have he := N (e, excObj ta dx) (List.mem_cons_self ..)
  have hin : ∀ env' ∈ (env :: outer), ∀ b, env'.frame = some b → b ∈ e :: (env :: outer).filterMap (·.frame) := fun env' he b hb => List.mem_cons_of_mem _ (List.mem_filterMap.mpr ⟨env', he, hb⟩)
  have hbe : base.get? e = none := fresh_of_stays K.stays he.2.2
  have st : base.StaysIn (hideAll s'.heap (e :: (env :: outer).filterMap (·.frame))) := fun b o q => hideAll_get _ (K'.stays b o q) fun hm => by
    rcases List.mem_cons.mp hm with rfl | hm
    · rw [hbe] at q; cases q
    · rw [(K'.frames.mem hm).1] at q; cases q
  have sg : ∀ b o, g.get? b = some o → b ∉ outer.filterMap (·.frame) → (hideAll s'.heap (e :: (env :: outer).filterMap (·.frame))).get? b = some o := fun b o q nm => hideAll_get _ (F.keep b o q) fun hm => by
    rcases List.mem_cons.mp hm with rfl | hm
    · rw [he.2.2] at q; cases q
    · rcases mem2 hf hm with z | z
      · rw [z, kts_self F] at q
        cases q
      · exact nm z
  have hl : ∀ q ∈ news, (hideAll s'.heap (e :: (env :: outer).filterMap (·.frame))).get? q.1 = some q.2 ∧ g.get? q.1 = none ∧ base.get? q.1 = none := fun q hq => by
    have nq := N q (List.mem_cons_of_mem _ hq)
    refine ⟨hideAll_get _ nq.1 fun hm => ?_, nq.2.2, fresh_of_stays K.stays nq.2.2⟩
    rcases List.mem_cons.mp hm with h1 | hm
    · exact hne q hq h1
    · rcases mem2 hf hm with z | z
      · exact nq.2.1 z
      · obtain ⟨o, ho, _⟩ := (K.frames.mem z).2
        rw [nq.2.2] at ho; cases ho
  refine wpAny_leaving_firstW (oe := excObj ta dx) (a0 := .ref ta) K'.stack (funFrames_hide K'.frames hin) hf he.1 (fun b o hb => of_hideAll _ hb) (hideAll_none _ (List.mem_cons_self ..)) rfl rfl rfl fun h' hL => ?_
  obtain ⟨k1, ⟨_, _, k2⟩, k3, k4⟩ := hL
  exact hQ h' ⟨_, .ref ta, st, sg, hl, k1, hideAll_none _ (List.mem_cons_self ..), k2, k3⟩ ((Heap.UpToSlots.of_keeps F.keep).trans k4)
end
end Mine

end
section
open PySem PySem.W PyProof.Rows PySem.Calls PySem.Spec
set_option maxRecDepth 100000
set_option maxHeartbeats 8000000
namespace Mine
section
variable {prog : Program} {w : World} {A₀ A : Around} {s : Shared} {base h₀ : Heap} {L : Addr} {m : Str → Option Value} {env : Env} {news : List (Addr × Obj)} {K : Frag} {p : Program} {loose : List Str} {mean : ExcName → Option Value} {mg mb : Str → Option Value}
    {R : Result → Shared → Prop} {name qual : Str} {params : Arguments} {body : List Stmt} {scope : Scope} {dV kV doc pm cdv ct oc : Value} {an od : Option Addr} {osl : Array (Option Value)} {f : Addr} {args : Args} {binds : List (Str × Value)}
/-- a def that catches, entered from the frame at the bottom -/
theorem enterTry (B : Below A₀ base [] h₀) (F : Fr h₀ L s.heap m) (X₀ : K.In h₀) (N : News h₀ L s.heap news) (T : Top p loose mean mg mb h₀) (hA : A.frames = some [env]) (hf : env.frame = some L) (hke : env.scope.kind = .function)
    (ho : K.lookup f = some ⟨oc, od, .func (fnOf name qual params body scope dV kV doc pm an cdv ct), osl⟩) (hcd : codeIn K cdv qual = true) (hroom : A.depth < recursionLimit)
    (hbind : BindsTo s (fnOf name qual params body scope dV kV doc pm an cdv ct) args binds) (hloc : ∀ y ∈ binds, scope.names.lookup y.1 = some .local)
    (h : ∀ g L' h₁, Fr h₀ L g m → Fr g L' h₁ (fun y => binds.reverse.lookup y) → News g L' h₁ news → Below A base [env] g → K.In g → Top p loose mean mg mb g → KtsDicts ([env].filterMap (·.frame)) g →
      wpAny (model prog w) (A.deeper (envOf qual scope L' f cdv)) (execs body (envOf qual scope L' f cdv))
        (fun fl s' => LeaveS0 ([env].filterMap (·.frame)) h₀ L m g R (match fl with | .ret v => v | _ => .none) s')
        (fun e s' => wpAny (model prog w) (A.deeper (envOf qual scope L' f cdv)) (leaving (envOf qual scope L' f cdv) e) (fun _ s'' => R (.error e) s'') (fun e' s'' => R (.error e') s'') s')
        { s with heap := h₁, toks := s.toks + binds.length })
    (hco : scope.isCoroutine = false) (hgen : scope.isGenerator = false) (hk : scope.kind = .function)
    (hcell : ∀ x ∈ scope.names, x.2 ≠ .cell) : codeAny (model prog w) A (.call (.ref f) args) R s := by
  have X := X₀.keeps F.keep
  refine codeAny_call_def (fd := fnOf name qual params body scope dV kV doc pm an cdv ct) (body := body) (binds := binds) hroom (X _ _ ho) rfl (T.nolimit.keeps F.keep) (codeRec_of X hcd) rfl hbind hcell hloc (fun h₁ hns hk₁ => ?_) hco hgen hk
  obtain ⟨FG, BG, st, _⟩ := groundX (R := R) B F N hA hf hke
  obtain ⟨oL, es, ep, hL, hLd, hLk, hLf⟩ := F.ns
  have nL : L ∉ news.map (·.1) := fun q => by
    obtain ⟨p, hp, e⟩ := List.mem_map.mp q
    exact (N p hp).2.1 e
  have hLg := hideAll_get (news.map (·.1)) hL nL
  have nL₀ : h₀.get? L = none := kts_self F
  have fr1 : ∀ {b : Addr}, b ∈ [env].filterMap (·.frame) → b = L := fun hb => by
    rcases mem2 (outer := []) hf hb with z | z
    · exact z
    · simp at z
  refine wpAny_mono (h _ s.heap.objs.size h₁ FG ⟨hns, fun b o e => hk₁ b o (of_hideAll _ e), Nat.le_of_eq (hideAll_size _ _)⟩
    (fun p hp => ⟨hk₁ _ _ (N p hp).1, Nat.ne_of_lt (Heap.lt_size (N p hp).1), hideAll_none _ (List.mem_map_of_mem hp)⟩) BG (X₀.keeps st) (T.keeps st) (fun b hb => by
      rw [fr1 hb]
      exact ⟨oL, es, ep, hLg, hLd⟩)) (fun fl s' hl => ?_) fun _ _ y => y
  obtain ⟨g', L', m', news', T', F', N', k⟩ := hl
  obtain ⟨sl, hs⟩ := T'.up hLg
  refine k ⟨⟨_, es, ep, F'.keep _ _ hs, hLd, hLk, hLf⟩, fun b o e => F'.keep b o (T'.other b o (st b o e) (fun q => by
    rw [fr1 q, nL₀] at e
    cases e)), F.above⟩ fun p hp => ⟨(N' p hp).1, fun q => ?_, ?_⟩
  · have := (N' p hp).2.2; rw [q, hs] at this; cases this
  · cases q : h₀.get? p.1 with
    | none => rfl
    | some o =>
      obtain ⟨sl', hs'⟩ := T'.up (st _ _ q)
      have := (N' p hp).2.2
      rw [hs'] at this
      cases this
end
section
variable {prog : Program} {w : World} {A₀ : Around} {E : Value → Shared → Prop} {s' : Shared} {base g g₀ G : Heap} {outer : List Env} {L a e C : Addr} {m : Str → Option Value} {name : Str} {scope : Scope} {cd : Value}
  {b₀ : Stmt} {suite : List Stmt} {pos np : Pos} {rest : List ExceptHandler} {Q : Flow → Shared → Prop} {news : List (Addr × Obj)} {KF : Frag}
  {p : Program} {loose : List Str} {mean : ExcName → Option Value} {mg mb : Str → Option Value} {x : Str}
/-- an own exception is caught by its own class -/
theorem caught2 (R : RaisedSN base G (envOf name scope L a cd :: outer) e (.ref C) news s'.heap) (F : Fr g L G m) (K : Below A₀ base outer g) (hsm : G.UpToSlots s'.heap) (XB : KF.In base) (TB : Top p loose mean mg mb base)
    (D : KtsDicts (outer.filterMap (·.frame)) g) (T0 : KtsTurn (outer.filterMap (·.frame)) g₀ g)
    (ex : nsIn KF mainGlobals x = some (some (.ref C))) (q : ktsIn KF C "BaseException" = true)
    (k : ∀ h' g', KtsTurn (outer.filterMap (·.frame)) g₀ g' → Fr g' L h' m → News g' L h' news → Below A₀ base outer g' → KF.In g' → Top p loose mean mg mb g' → KtsDicts (outer.filterMap (·.frame)) g' →
      wpAny (model prog w) ((A₀.deeper (envOf name scope L a cd)).mark (some (.ref e))) (execs (b₀ :: suite) (envOf name scope L a cd)) Q E { s' with heap := h' })
    (hk : scope.kind = .function := by rfl) (hx : (envOf name scope L a cd).kindOf x = some .globalImplicit := by rfl) (hd : (x == ("__debug__" : Str)) = false := by decide)
    (hE : PassesOwnAt (model prog w) ((A₀.deeper (envOf name scope L a cd)).mark (some (.ref e))) (A₀.deeper (envOf name scope L a cd)) (envOf name scope L a cd) E := by passes_own) :
    wpAny (model prog w) (A₀.deeper (envOf name scope L a cd)) (noteFrame (.ref e) (envOf name scope L a cd))
      (fun _ s₂ => wpAny (model prog w) (A₀.deeper (envOf name scope L a cd)) (setFlight (.ref e) none) (fun _ s₃ =>
        wpAny (model prog w) (A₀.deeper (envOf name scope L a cd)) (handleBy (.ref e) (envOf name scope L a cd) (.ExceptHandler (some (.Name x np)) none (b₀ :: suite) pos :: rest)) Q E s₃) E s₂) E s' := by
  obtain ⟨B, a0, hB, hBG, hl, hfl⟩ := R
  have hL : B.get? L = none := by
    obtain ⟨_, ⟨L', _, hf, hn', _⟩, _⟩ := hfl.2.2.1
    obtain rfl : L = L' := Option.some.inj hf
    exact hn'
  refine wpAny_looks_onW (Around.frames_deeper K.stack) rfl hfl fun h₄ hheld₄ sm₄ => ?_
  refine wpAny_landsW hheld₄ fun h₅ hheld sm₄₅ => ?_
  have sm₅ := hsm.trans (sm₄.trans sm₄₅)
  obtain ⟨g₅, T₅, F₅, K₅⟩ := kts_ground K F hBG hheld.1 sm₅
  have X₅ : KF.In g₅ := XB.keeps K₅.stays
  obtain ⟨ob, hob, hobc⟩ := hheld.there
  obtain ⟨_, _, _, _, _, _, _, _, _, _, _, _, _, _, _, _, _, hC, hbase, _⟩ := kts_cls X₅ q
  refine wpAny_handleBy_cons (codeAny_handlers_test (name_K F₅ X₅ (topRead_of (TB.keeps K₅.stays)) ex ?_ hk hx hd)) (by intro q; cases q)
  refine wpAny_excMatches_sub_self (F₅.keep _ _ hC) hob hobc hbase (codeAny_handlers_suite ?_)
  refine lands_againW hheld fun h₆ hfl₆ sm₅₆ => ?_
  obtain ⟨g₆, T₆, F₆, K₆⟩ := kts_ground K F hBG hfl₆.1 (sm₅.trans sm₅₆)
  exact wpAny_passesOwnAt hE (k h₆ g₆ (T0.trans T₆) F₆ (fun r hr => ⟨hfl₆.1 _ _ (hl r hr).1, (fun z => by have := (hl r hr).1; rw [z, hL] at this; cases this), T₆.none_ _ (kts_none F.keep (hl r hr).2.1)⟩)
    K₆ (XB.keeps K₆.stays) (TB.keeps K₆.stays) (D.turn T₆))
end
end Mine

end
section
open PySem PySem.W PyProof.Rows PySem.Calls
namespace Mine
set_option maxRecDepth 100000
set_option maxHeartbeats 8000000
theorem fillT4 : (PySem.Challenge.rw_ok0137_01 = PySem.Challenge.rw_ok0137_01) → (hd.heap_39 = hd.heap_39) → True := by k_fill; intros; trivial
abbrev ent (w : World) (x : String) (t : Tok) (v : Value) : DictEntry := { hash := PyData.keyHash w.params (PySem.Str.ofString x), key := .str (PySem.Str.ofString x) t, val := v }
local macro_rules | `(tactic| k_all) => `(tactic| with_reducible assumption)
local macro_rules | `(tactic| k_mem) => `(tactic| first | with_reducible assumption | (with_reducible exact List.mem_cons_of_mem _ (by with_reducible assumption)))
local macro_rules | `(tactic| walk_at "compareOp NotIn int ref") => `(tactic| (k_here; k_dflt (refine' notin2 (knd := PySem.intKind _ _) ?N ?m ?d ?lo ?ky ?_ ?_; (case N => k_asm); (case m => k_mem); (case d => k_asm); (case lo => k_asm); (case ky => exact intKind_is _ _ _ _)); (all_goals intro hv')))
local macro_rules | `(tactic| walk_at "subscriptTail") => `(tactic| (k_here; (with_reducible show wpAny _ _ (subscriptTail _ _ (Value.ref _) (Value.int _ _)) _ _ _); k_dflt (refine' kdt_tail (knd := PySem.intKind _ _) ?N ?m ?d ?_; (case N => k_asm); (case m => k_mem); (case d => k_asm); k_whole)))
local macro_rules | `(tactic| walk_at "getItem ref int") => `(tactic| (k_here; k_dflt (refine' getItem2 (knd := PySem.intKind _ _) ?N ?m ?d ?ky ?s ?_; (case N => k_asm); (case m => k_mem); (case d => k_asm); (case ky => exact intKind_is _ _ _ _); (case s => k_asm); k_whole); intro v' hv'))
local macro_rules | `(tactic| walk_at "exec Raise some none") => `(tactic| (k_here; refine stop ?_))
local macro_rules | `(tactic| walk_at "call ref") => `(tactic| (k_here; (with_reducible show wpAny _ _ (call (Value.ref 51) _) _ _ _); k_dflt (refine' mkexc_spec ?B ?F ?X ?N ?T ?hk ?hd ?hu ?_; (case B => k_asm); (case F => k_asm); (case X => k_asm); (case N => k_asm); (case T => k_asm); (case hk => exact rfl); (case hd => ktr_room); (case hu => ktr_units)); intro e' ta' dx' h' tk' F' N' hne'))
theorem quant_spec {prog : Program} {w : World} {dp un : Nat} {gd : Option (List Code)} {cn : Str} {cs : Scope} {a : Addr} {ccd : Value} {cl : List (Str × Addr)} {outer : List Env} {A₀ : Around} {base h₀ : Heap} {L : Addr} {m : Str → Option Value} {s : Shared}
    {Q E : Value → Shared → Prop} {p : Program} {loose : List Str} {mean : ExcName → Option Value} {mg mb : Str → Option Value} {news : List (Addr × Obj)} {ta td tq : Addr} {oq : Obj} {kh : Bk} {slot : Int} {st t1 t2 t3 : Tok} {v2 v3 : Value}
    (B : Below A₀ base outer h₀) (F : Fr h₀ L s.heap m) (X : (hd.heap_39 w.params).In h₀) (N : News h₀ L s.heap news) (T : Top p loose mean mg mb h₀) (hk : cs.kind = .function)
    (hta : (ta, instObj 84 td) ∈ news) (htd : (td, dictOf [ent w "quant" t1 (.ref tq), ent w "codes" t2 v2, ent w "conditioning" t3 v3] 3) ∈ news) (htq : (tq, oq) ∈ news) (hoq : oq.IsDictOf (PySem.intKind prog w) kh) (lo : (tq == sysModules) = false)
    (hs0 : 0 ≤ slot) (hs1 : slot < 3) (hdp : dp + 4 < recursionLimit) (hu : un + 40 < cLine)
    (ret : ∀ v h' tk', valueAt kh slot = some v → Fr h₀ L h' m → News h₀ L h' news → Q v { s with heap := h', toks := tk' })
    (hE : valueAt kh slot = none → ∀ g₂ e h' tk', Fr h₀ L g₂ m → RaisedSN base g₂ (envX cn cs L a ccd cl :: outer) e (.ref 51) news h' → g₂.UpToSlots h' → E (.ref e) { s with heap := h', toks := tk' }) :
    wpAny (model prog w) (ktrTop dp un gd cn cs L a ccd cl outer) (call (.ref 74) [.ref ta, .int slot st]) Q E s := by
  refine wpAny_call ?_
  k_dflt cell_enter
  k_steps
  · exact ret _ _ _ (by assumption) (by assumption) (by assumption)
  · refine raise51 rfl ?_
    intro R hR
    k_steps
    (rename Fr _ _ _ _ => F5)
    (rename News _ _ _ _ => N5)
    refine hR _ _ _ _ (Frag.In.keeps (by assumption) (Fr.keep F5)) (N5 _ (List.mem_cons_self ..)).1 ?_
    show wpAny _ _ (leaving _ _) _ _ _
    refine leave1st (by assumption) F5 rfl rfl N5 (by assumption) ?_
    intro h9 R9 U9
    exact hE (none_of (by assumption)) _ _ _ _ (by assumption) R9 U9
end Mine

end
section
open PySem PySem.W PyProof.Rows PySem.Calls
namespace Mine
set_option maxRecDepth 100000
set_option maxHeartbeats 8000000
theorem fillT5 : (PySem.Challenge.rw_ok0137_01 = PySem.Challenge.rw_ok0137_01) → (hd.heap_39 = hd.heap_39) → True := by k_fill; intros; trivial
def CompsAt (w : World) (ccs : List (Addr × Obj)) (cs : List Value) (sls : List Int) : Prop :=
  cs.length = sls.length ∧ ∀ i, i < sls.length → ∃ a d t1 t2 t3 t4 v1 v2 v3 u, cs[i]? = some (.ref a) ∧ (a, instObj 147 d) ∈ ccs ∧
    (d, dictOf [ent w "ident" t1 v1, ent w "across" t2 v2, ent w "down" t3 v3, ent w "quant" t4 (.int (sls.getD i 0) u)] 4) ∈ ccs
theorem itemC {prog : Program} {w : World} {A : Around} {E : Value → Shared → Prop} {s : Shared} {h₀ : Heap} {L l : Addr} {news ccs tl : List (Addr × Obj)} {value slice : PySem.Expr} {cs : List Value} {sls : List Int} {nn : Nat} {k : Int} {u : Tok} {Q : Value → Shared → Prop}
    (N : News h₀ L s.heap news) (hm : (l, listOf cs.toArray nn) ∈ news) (hc : CompsAt w ccs cs sls) (hsub : ∀ q ∈ ccs, q ∈ tl) (h0 : 0 ≤ k ∧ k < (sls.length : Int)) (hfit : sls.length < 1000000)
    (h : ∀ a d t1 t2 t3 t4 v1 v2 v3 u, (a, instObj 147 d) ∈ tl → (d, dictOf [ent w "ident" t1 v1, ent w "across" t2 v2, ent w "down" t3 v3, ent w "quant" t4 (.int (sls.getD k.toNat 0) u)] 4) ∈ tl → Q (.ref a) s)
    (hs : subscripted slice false (.ref l) (.int k u) = operate [.ref l, .int k u] (getItem (.ref l) (.int k u)) := by with_unfolding_all rfl) :
    wpAny (model prog w) A (subscriptTail value slice (.ref l) (.int k u)) Q E s := by
  have hl : s.heap.IsList l cs.toArray := ⟨_, (N _ hm).1, rfl, nn, rfl⟩
  obtain ⟨a, d, t1, t2, t3, t4, v1, v2, v3, u', hx, ha, hd⟩ := hc.2 k.toNat (by omega)
  exact tail_any hl.typeIs slot_list_getitem.lookup (wpAny_getItem_list hl h0.1 (by omega) (by simpa using hx) (h a d t1 t2 t3 t4 v1 v2 v3 u' (hsub _ ha) (hsub _ hd))) hs
theorem lenC {prog : Program} {w : World} {A : Around} {E : Value → Shared → Prop} {s : Shared} {h₀ : Heap} {L l : Addr} {news ccs : List (Addr × Obj)} {cs : List Value} {sls : List Int} {nn : Nat} {Q : Value → Shared → Prop}
    (N : News h₀ L s.heap news) (hm : (l, listOf cs.toArray nn) ∈ news) (hc : CompsAt w ccs cs sls) (hfit : sls.length < 1000000) (h : ∀ t tk, Q (.int (sls.length : Int) t) { s with toks := tk }) :
    wpAny (model prog w) A (call (.builtin "len") [.ref l]) Q E s := by
  have hl : s.heap.IsList l cs.toArray := ⟨_, (N _ hm).1, rfl, nn, rfl⟩
  have e : (cs.toArray.size : Int) = (sls.length : Int) := by rw [List.size_toArray, hc.1]
  refine len_list hl (by rw [e]; omega) ?_
  rw [e]; exact h _ _
local macro_rules | `(tactic| k_all) => `(tactic| with_reducible assumption)
local macro_rules | `(tactic| k_mem) => `(tactic| first | with_reducible assumption | (with_reducible exact List.mem_cons_of_mem _ (by with_reducible assumption)))
local macro_rules | `(tactic| walk_at "exec For Name Attribute cons nil") => `(tactic| (k_here; (rename Fr _ _ _ _ => lF'); (with_unfolding_all refine' For_invVF lF' ?k1 ?k2 ?_; (case k1 => exact rfl); (case k2 => exact rfl); k_whole)))
local macro_rules | `(tactic| walk_at "pyIter ref") => `(tactic| (k_here; refine stop ?_))
local macro_rules | `(tactic| walk_at "compareOp NotIn int ref") => `(tactic| (k_here; k_dflt (refine' notin2 (knd := PySem.intKind _ _) ?N ?m ?d ?lo ?ky ?_ ?_; (case N => k_asm); (case m => k_mem); (case d => k_asm); (case lo => k_asm); (case ky => exact intKind_is _ _ _ _)); (all_goals intro hv')))
local macro_rules | `(tactic| walk_at "subscriptTail") => `(tactic| (k_here; (with_reducible show wpAny _ _ (subscriptTail _ _ (Value.ref _) (Value.int _ _)) _ _ _); k_dflt (refine' itemC ?N ?m ?i ?b ?h ?z ?_ ?s; (case N => k_asm); (case m => k_mem); (case i => assumption); (case b => assumption); (case h => assumption); (case z => assumption); (case s => with_unfolding_all rfl); k_whole); intro a' d' t1' t2' t3' t4' v1' v2' v3' u' ma' md'))
local macro_rules | `(tactic| walk_at "setItem ref int") => `(tactic| (k_here; k_dflt (refine' kda_set (knd := PySem.intKind _ _) ?F ?N ?U ?d (intKind_is _ _ _ _) ?z ?_; (case F => k_asm); (case N => k_asm); (case U => k_updF); (case d => k_asm); (case z => rw [sizeLine_eq]; omega)); intro h' o' F' N' hd'; (try dsimp only at N')))
local macro_rules | `(tactic| walk_at "call ref") => `(tactic| (k_here; (with_reducible show wpAny _ _ (call (Value.ref 74) _) _ _ _); k_dflt (refine' quant_spec ?B ?F ?X ?N ?T ?hk ?h1 ?h2 ?h3 ?h4 ?h5 ?h6 ?h7 ?hd ?hu ?r1 ?r2; (case B => k_asm); (case F => k_asm); (case X => k_asm); (case N => k_asm); (case T => k_asm); (case hk => exact rfl); (case h1 => k_mem); (case h2 => k_mem); (case h3 => k_mem); (case h4 => k_asm); (case h5 => assumption); (case h6 => assumption); (case h7 => assumption); (case hd => ktr_room); (case hu => ktr_units)); (case' r1 => (intro v' h' tk' hv' F' N')); (case' r2 => (intro hnone' g₂' e' h' tk' FG' R' U'; refine stop ?_))))
theorem keepdiv_spec {prog : Program} {w : World} {dp un : Nat} {gd : Option (List Code)} {cn : Str} {cs : Scope} {a : Addr} {ccd : Value} {cl : List (Str × Addr)} {outer : List Env} {A₀ : Around} {base h₀ : Heap} {L : Addr} {m : Str → Option Value} {s : Shared}
    {Q E : Value → Shared → Prop} {p : Program} {loose : List Str} {mean : ExcName → Option Value} {mg mb : Str → Option Value} {news ccs : List (Addr × Obj)} {g : Obj → List (Addr × Obj)} {pa pd sa sd ta td tq pq fa fd cla pl : Addr} {oq ob : Obj} {kh kb : Bk} {ps css : List Value} {pls sls : List Int} {pn cln : Nat}
    {t1 t2 t3 t4 t5 t6 t7 t8 u1 u2 u3 u4 u5 u6 u7 r1 r2 r3 f1 f2 f3 f4 f5 f6 : Tok} {v1 v3 v6 v7 v8 x2 x3 x4 x5 x6 x7 y2 y3 z1 z2 z3 z4 z6 : Value}
    (B : Below A₀ base outer h₀) (F : Fr h₀ L s.heap m) (X : (hd.heap_39 w.params).In h₀) (N : News h₀ L s.heap news) (T : Top p loose mean mg mb h₀) (hk : cs.kind = .function)
    (U : UpdF pq ob news g) (hob : ob.IsDictOf (PySem.intKind prog w) kb)
    (hpa : (pa, instObj 105 pd) ∈ news) (hpd : (pd, dictOf [ent w "n" t1 v1, ent w "frame" t2 (.ref fa), ent w "grid" t3 v3, ent w "tables" t4 (.ref ta), ent w "quant" t5 (.ref pq), ent w "apps" t6 v6, ent w "scans" t7 v7, ent w "interval" t8 v8] 8) ∈ news)
    (hsa : (sa, instObj 248 sd) ∈ news) (hsd : (sd, dictOf [ent w "places" u1 (.ref pl), ent w "dc_slots" u2 x2, ent w "ac_slots" u3 x3, ent w "start" u4 x4, ent w "end" u5 x5, ent w "high" u6 x6, ent w "low" u7 x7] 7) ∈ news)
    (hp : (pl, listOf ps.toArray pn) ∈ news) (hps : IntsAre ps pls)
    (hta : (ta, instObj 84 td) ∈ news) (htd : (td, dictOf [ent w "quant" r1 (.ref tq), ent w "codes" r2 y2, ent w "conditioning" r3 y3] 3) ∈ news) (htq : (tq, oq) ∈ news) (hoq : oq.IsDictOf (PySem.intKind prog w) kh)
    (hfa : (fa, instObj 213 fd) ∈ news) (hfd : (fd, dictOf [ent w "kind" f1 z1, ent w "precision" f2 z2, ent w "height" f3 z3, ent w "width" f4 z4, ent w "components" f5 (.ref cla), ent w "n" f6 z6] 6) ∈ news)
    (hcl : (cla, listOf css.toArray cln) ∈ news) (hcc : CompsAt w ccs css sls) (hci : ∀ q ∈ ccs, q ∈ news) (hco : ∀ q ∈ ccs, q.1 ≠ pq)
    (lob : (pq == sysModules) = false) (loq : (tq == sysModules) = false)
    (n1 : pa ≠ pq) (n2 : pd ≠ pq) (n3 : sa ≠ pq) (n4 : sd ≠ pq) (n5 : pl ≠ pq) (n6 : ta ≠ pq) (n7 : td ≠ pq) (n8 : tq ≠ pq) (n9 : fa ≠ pq) (n10 : fd ≠ pq) (n11 : cla ≠ pq)
    (hpos : ∀ x ∈ pls, 0 ≤ x ∧ x < (sls.length : Int)) (hsl0 : ∀ c ∈ sls, 0 ≤ c ∧ c < 3) (hlen : kb.length + pls.length ≤ 1000) (hsl : sls.length < 1000000) (hdp : dp + 6 < recursionLimit) (hu : un + 80 < cLine)
    (ret : (kall sls kh pls kb).1 = true → ∀ o' h' tk', Fr h₀ L h' m → News h₀ L h' (g o') → o'.IsDictOf (PySem.intKind prog w) (kall sls kh pls kb).2 → Q .none { s with heap := h', toks := tk' })
    (hE : (kall sls kh pls kb).1 = false → ∀ o' g₂ e h' tk', Fr h₀ L g₂ m → RaisedSN base g₂ (envX cn cs L a ccd cl :: outer) e (.ref 51) (g o') h' → g₂.UpToSlots h' → o'.IsDictOf (PySem.intKind prog w) (kall sls kh pls kb).2 → E (.ref e) { s with heap := h', toks := tk' }) :
    wpAny (model prog w) (ktrTop dp un gd cn cs L a ccd cl outer) (call (.ref 116) [.ref pa, .ref sa]) Q E s := by
  obtain ⟨rest, N, hoff, hin, back⟩ := upd_front3 N U
  replace hpa := hin _ hpa n1
  replace hpd := hin _ hpd n2
  replace hsa := hin _ hsa n3
  replace hsd := hin _ hsd n4
  replace hp := hin _ hp n5
  replace hta := hin _ hta n6
  replace htd := hin _ htd n7
  replace htq := hin _ htq n8
  replace hfa := hin _ hfa n9
  replace hfd := hin _ hfd n10
  replace hcl := hin _ hcl n11
  replace hci : ∀ q ∈ ccs, q ∈ rest := fun q hq => hin _ (hci q hq) (hco q hq)
  clear hin n1 n2 n3 n4 n5 n6 n7 n8 n9 n10 n11 U hco
  refine wpAny_call ?_
  k_dflt cell_enter
  k_steps
  unfold Stop
  refine loopL (σ := Obj × Bk) (Ob := fun c => c.1) (Facts := fun c => c.1.IsDictOf (PySem.intKind prog w) c.2) (P := fun pre c => kall sls kh pre kb = (true, c.2)) (c₀ := (ob, kb)) rfl hp hps hoff (by assumption) (by assumption) hob rfl ?_ ?_
  · intro c pre post n t h tk tail R en hsub hoff2 hf2 hp2 F2 N2 fin hret
    replace hpa := hsub _ hpa
    replace hpd := hsub _ hpd
    replace hta := hsub _ hta
    replace htd := hsub _ htd
    replace htq := hsub _ htq
    replace hfa := hsub _ hfa
    replace hfd := hsub _ hfd
    replace hcl := hsub _ hcl
    replace hci : ∀ q ∈ ccs, q ∈ tail := fun q hq => hsub _ (hci q hq)
    have hn := hpos n (by rw [en]; simp)
    have hg : 0 ≤ sls.getD n.toNat 0 ∧ sls.getD n.toNat 0 < 3 := hsl0 _ (kso_getD (by omega))
    obtain ⟨hg0, hg1⟩ := hg
    have hcl9 : c.2.length ≤ 1000 := by
      have := @kall_len sls kh pre kb
      rw [hp2] at this
      have e2 : pls.length = pre.length + (post.length + 1) := by rw [en]; simp
      dsimp only at this
      omega
    k_steps
    · exact fin c _ _ _ hf2 (kall_has hp2 (by assumption)) (by assumption) (fun z hz => by simp [hz]) (by assumption)
    · unfold Stop
      show wpAny _ _ (leaving _ _) _ _ _
      refine leave2 (by assumption) (by assumption) rfl (by assumption) (by assumption) ?_
      intro h9 R9 U9
      have e := kall_off (post := post) hp2 (by assumption) (by assumption)
      rw [← en] at e
      exact hE (by rw [e]) c.1 _ _ _ _ (by assumption) (raised_sub R9 fun p hp => cons_sub hsub p (back _ p hp)) U9 (by rw [e]; exact hf2)
    · exact fin (_, _) _ _ _ (by assumption) (kall_new hp2 (by assumption) (by assumption)) (by assumption) (fun z hz => by simp [hz]) (by assumption)
  · intro c u h tk hf2 hp2 F2 N2
    k_steps
    exact ret (by rw [hp2]) c.1 _ _ (by assumption) (news_sub (by assumption) (back _)) (by rw [hp2]; exact hf2)
end Mine

end
section
open PySem PySem.W PyProof.Rows PySem.Calls
namespace Mine
set_option maxRecDepth 100000
set_option maxHeartbeats 8000000
theorem fillT6 : (PySem.Challenge.rw_ok0137_01 = PySem.Challenge.rw_ok0137_01) → (hd.heap_39 = hd.heap_39) → True := by k_fill; intros; trivial
local macro_rules | `(tactic| k_all) => `(tactic| with_reducible assumption)
local macro_rules | `(tactic| k_mem) => `(tactic| first | with_reducible assumption | (with_reducible exact List.mem_cons_of_mem _ (by with_reducible assumption)))
local macro_rules | `(tactic| walk_at "exec For Name Call cons nil") => `(tactic| (k_here; (rename Fr _ _ _ _ => lF'); (with_unfolding_all refine' For_invVF lF' ?k1 ?k2 ?_; (case k1 => exact rfl); (case k2 => exact rfl); k_whole)))
local macro_rules | `(tactic| walk_at "pyIter ref") => `(tactic| (k_here; refine stop ?_))
local macro_rules | `(tactic| walk_at "compareOp NotIn int ref") => `(tactic| (k_here; k_dflt (refine' notin2 (knd := PySem.intKind _ _) ?N ?m ?d ?lo ?ky ?_ ?_; (case N => k_asm); (case m => k_mem); (case d => k_asm); (case lo => k_asm); (case ky => exact intKind_is _ _ _ _)); (all_goals intro hv')))
local macro_rules | `(tactic| walk_at "subscriptTail") => `(tactic| (k_here; (with_reducible show wpAny _ _ (subscriptTail _ _ (Value.ref _) (Value.int _ _)) _ _ _); k_dflt (refine' itemC ?N ?m ?i ?b ?h ?z ?_ ?s; (case N => k_asm); (case m => k_mem); (case i => assumption); (case b => assumption); (case h => assumption); (case z => assumption); (case s => with_unfolding_all rfl); k_whole); intro a' d' t1' t2' t3' t4' v1' v2' v3' u' ma' md'))
local macro_rules | `(tactic| walk_at "setItem ref int") => `(tactic| (k_here; k_dflt (refine' kda_set (knd := PySem.intKind _ _) ?F ?N ?U ?d (intKind_is _ _ _ _) ?z ?_; (case F => k_asm); (case N => k_asm); (case U => k_updF); (case d => k_asm); (case z => rw [sizeLine_eq]; omega)); intro h' o' F' N' hd'; (try dsimp only at N')))
local macro_rules | `(tactic| walk_at "call ref") => `(tactic| (k_here; (with_reducible show wpAny _ _ (call (Value.ref 74) _) _ _ _); k_dflt (refine' quant_spec ?B ?F ?X ?N ?T ?hk ?h1 ?h2 ?h3 ?h4 ?h5 ?h6 ?h7 ?hd ?hu ?r1 ?r2; (case B => k_asm); (case F => k_asm); (case X => k_asm); (case N => k_asm); (case T => k_asm); (case hk => exact rfl); (case h1 => k_mem); (case h2 => k_mem); (case h3 => k_mem); (case h4 => k_asm); (case h5 => assumption); (case h6 => assumption); (case h7 => assumption); (case hd => ktr_room); (case hu => ktr_units)); (case' r1 => (intro v' h' tk' hv' F' N')); (case' r2 => (intro hnone' g₂' e' h' tk' FG' R' U'; refine stop ?_))))
local macro_rules | `(tactic| walk_at "call builtin:len") => `(tactic| (k_here; (with_reducible show wpAny _ _ (call (Value.builtin "len") [Value.ref _]) _ _ _); k_dflt (refine' lenC ?N ?m ?i ?z ?_; (case N => k_asm); (case m => k_mem); (case i => assumption); (case z => assumption)); intro t' tk'))
theorem keepall_spec {prog : Program} {w : World} {dp un : Nat} {gd : Option (List Code)} {cn : Str} {cs : Scope} {a : Addr} {ccd : Value} {cl : List (Str × Addr)} {outer : List Env} {A₀ : Around} {base h₀ : Heap} {L : Addr} {m : Str → Option Value} {s : Shared}
    {Q E : Value → Shared → Prop} {p : Program} {loose : List Str} {mean : ExcName → Option Value} {mg mb : Str → Option Value} {news ccs : List (Addr × Obj)} {g : Obj → List (Addr × Obj)} {pa pd ta td tq pq fa fd cla : Addr} {oq ob : Obj} {kh kb : Bk} {css : List Value} {sls : List Int} {cln : Nat}
    {t1 t2 t3 t4 t5 t6 t7 t8 r1 r2 r3 f1 f2 f3 f4 f5 f6 : Tok} {v1 v3 v6 v7 v8 y2 y3 z1 z2 z3 z4 z6 : Value}
    (B : Below A₀ base outer h₀) (F : Fr h₀ L s.heap m) (X : (hd.heap_39 w.params).In h₀) (N : News h₀ L s.heap news) (T : Top p loose mean mg mb h₀) (hk : cs.kind = .function)
    (U : UpdF pq ob news g) (hob : ob.IsDictOf (PySem.intKind prog w) kb)
    (hpa : (pa, instObj 105 pd) ∈ news) (hpd : (pd, dictOf [ent w "n" t1 v1, ent w "frame" t2 (.ref fa), ent w "grid" t3 v3, ent w "tables" t4 (.ref ta), ent w "quant" t5 (.ref pq), ent w "apps" t6 v6, ent w "scans" t7 v7, ent w "interval" t8 v8] 8) ∈ news)
    (hta : (ta, instObj 84 td) ∈ news) (htd : (td, dictOf [ent w "quant" r1 (.ref tq), ent w "codes" r2 y2, ent w "conditioning" r3 y3] 3) ∈ news) (htq : (tq, oq) ∈ news) (hoq : oq.IsDictOf (PySem.intKind prog w) kh)
    (hfa : (fa, instObj 213 fd) ∈ news) (hfd : (fd, dictOf [ent w "kind" f1 z1, ent w "precision" f2 z2, ent w "height" f3 z3, ent w "width" f4 z4, ent w "components" f5 (.ref cla), ent w "n" f6 z6] 6) ∈ news)
    (hcl : (cla, listOf css.toArray cln) ∈ news) (hcc : CompsAt w ccs css sls) (hci : ∀ q ∈ ccs, q ∈ news) (hco : ∀ q ∈ ccs, q.1 ≠ pq)
    (lob : (pq == sysModules) = false) (loq : (tq == sysModules) = false)
    (n1 : pa ≠ pq) (n2 : pd ≠ pq) (n6 : ta ≠ pq) (n7 : td ≠ pq) (n8 : tq ≠ pq) (n9 : fa ≠ pq) (n10 : fd ≠ pq) (n11 : cla ≠ pq)
    (hsl0 : ∀ c ∈ sls, 0 ≤ c ∧ c < 3) (hlen : kb.length + sls.length ≤ 1000) (hsl : sls.length < 1000000) (hdp : dp + 6 < recursionLimit) (hu : un + 80 < cLine)
    (ret : (kall sls kh (rangeKs 0 sls.length) kb).1 = true → ∀ o' h' tk', Fr h₀ L h' m → News h₀ L h' (g o') → o'.IsDictOf (PySem.intKind prog w) (kall sls kh (rangeKs 0 sls.length) kb).2 → Q .none { s with heap := h', toks := tk' })
    (hE : (kall sls kh (rangeKs 0 sls.length) kb).1 = false → ∀ o' g₂ e h' tk', Fr h₀ L g₂ m → RaisedSN base g₂ (envX cn cs L a ccd cl :: outer) e (.ref 51) (g o') h' → g₂.UpToSlots h' → o'.IsDictOf (PySem.intKind prog w) (kall sls kh (rangeKs 0 sls.length) kb).2 → E (.ref e) { s with heap := h', toks := tk' }) :
    wpAny (model prog w) (ktrTop dp un gd cn cs L a ccd cl outer) (call (.ref 123) [.ref pa]) Q E s := by
  obtain ⟨rest, N, hoff, hin, back⟩ := upd_front3 N U
  replace hpa := hin _ hpa n1
  replace hpd := hin _ hpd n2
  replace hta := hin _ hta n6
  replace htd := hin _ htd n7
  replace htq := hin _ htq n8
  replace hfa := hin _ hfa n9
  replace hfd := hin _ hfd n10
  replace hcl := hin _ hcl n11
  replace hci : ∀ q ∈ ccs, q ∈ rest := fun q hq => hin _ (hci q hq) (hco q hq)
  clear hin n1 n2 n6 n7 n8 n9 n10 n11 U hco
  refine wpAny_call ?_
  k_dflt cell_enter
  k_steps
  unfold Stop
  refine loopR (n := sls.length) (σ := Obj × Bk) (Ob := fun c => c.1) (Facts := fun c => c.1.IsDictOf (PySem.intKind prog w) c.2) (P := fun pre c => (∃ post, rangeKs 0 sls.length = pre ++ post) ∧ kall sls kh pre kb = (true, c.2)) (c₀ := (ob, kb)) rfl (by assumption) (small_one (by omega) (by omega) (by omega) (by omega)) (by rw [rangeSize_nat]; omega) hoff (by assumption) (by assumption) hob ⟨⟨_, rfl⟩, rfl⟩ ?_ ?_
  · rintro c pre n t h tk tail R hk9 hlt hsub hoff2 hf2 ⟨⟨post, en⟩, hp2⟩ F2 N2 fin hret
    obtain ⟨post', en⟩ := rk_split en hk9 hlt
    replace hpa := hsub _ hpa
    replace hpd := hsub _ hpd
    replace hta := hsub _ hta
    replace htd := hsub _ htd
    replace htq := hsub _ htq
    replace hfa := hsub _ hfa
    replace hfd := hsub _ hfd
    replace hcl := hsub _ hcl
    replace hci : ∀ q ∈ ccs, q ∈ tail := fun q hq => hsub _ (hci q hq)
    have hn : 0 ≤ n ∧ n < (sls.length : Int) := by omega
    have hg : 0 ≤ sls.getD n.toNat 0 ∧ sls.getD n.toNat 0 < 3 := hsl0 _ (kso_getD (by omega))
    obtain ⟨hg0, hg1⟩ := hg
    have hcl9 : c.2.length ≤ 1000 := by
      have := @kall_len sls kh pre kb
      rw [hp2] at this
      dsimp only at this
      omega
    k_steps
    · exact fin c _ _ _ hf2 ⟨⟨post', by rw [en]; simp⟩, kall_has hp2 (by assumption)⟩ (by assumption) (fun z hz => by simp [hz]) (by assumption)
    · unfold Stop
      show wpAny _ _ (leaving _ _) _ _ _
      refine leave2 (by assumption) (by assumption) rfl (by assumption) (by assumption) ?_
      intro h9 R9 U9
      have e := kall_off (post := post') hp2 (by assumption) (by assumption)
      rw [← en] at e
      exact hE (by rw [e]) c.1 _ _ _ _ (by assumption) (raised_sub R9 fun p hp => cons_sub hsub p (back _ p hp)) U9 (by rw [e]; exact hf2)
    · exact fin (_, _) _ _ _ (by assumption) ⟨⟨post', by rw [en]; simp⟩, kall_new hp2 (by assumption) (by assumption)⟩ (by assumption) (fun z hz => by simp [hz]) (by assumption)
  · rintro c u h tk hf2 ⟨_, hp2⟩ F2 N2
    k_steps
    exact ret (by rw [hp2]) c.1 _ _ (by assumption) (news_sub (by assumption) (back _)) (by rw [hp2]; exact hf2)
end Mine

end
section
open PySem PySem.W PyProof.Rows PySem.Calls
namespace Mine
set_option maxRecDepth 100000
set_option maxHeartbeats 8000000
theorem fillT7 : (PySem.Challenge.rw_ok0137_01 = PySem.Challenge.rw_ok0137_01) → (hd.heap_39 = hd.heap_39) → True := by k_fill; intros; trivial
local macro_rules | `(tactic| walk_at "call ref") => `(tactic| (k_here; refine stop ?_))
local macro_rules | `(tactic| walk_at "noteFrame ref") => `(tactic| (k_here; refine stop ?_))
local macro_rules | `(tactic| k_mem) => `(tactic| with_reducible assumption)
local macro_rules | `(tactic| walk_at "callWith ref") => `(tactic| (k_here; k_dflt (refine' callWith_F0 ?k1 ?_; (case k1 => exact FnAt.of (by k_asm) (by k_mem)); k_whole; try dsimp only [List.nil_append, List.cons_append])))
theorem asked_spec {prog : Program} {w : World} {dp un : Nat} {gd : Option (List Code)} {cn : Str} {cs : Scope} {a : Addr} {ccd : Value} {cl : List (Str × Addr)} {A₀ : Around} {base h₀ : Heap} {L : Addr} {m : Str → Option Value} {s : Shared}
    {Q E : Value → Shared → Prop} {p : Program} {loose : List Str} {mean : ExcName → Option Value} {mg mb : Str → Option Value} {news : List (Addr × Obj)} {f : Addr} (Ret Exc : List (Addr × Obj) → Prop)
    (B : Below A₀ base [] h₀) (F : Fr h₀ L s.heap m) (X : (hd.heap_39 w.params).In h₀) (N : News h₀ L s.heap news) (T : Top p loose mean mg mb h₀) (XB : (hd.heap_39 w.params).In base) (TB : Top p loose mean mg mb base) (hk : cs.kind = .function)
    {lnm lq : Str} {lpar : Arguments} {lb : Expr} {lsc : Scope} {lcl : List (Str × Addr)} {lpm lct : Value} {lc : Addr} (hf : (f, kla_obj lnm lq lpar lb lsc lcl lpm lc lct) ∈ news) (hdp : dp + 1 < recursionLimit) (hu : un + 8 < cLine)
    (hcall : ∀ (g : Heap) (L' : Addr) (h₁ : Heap) (tk : Nat) (m' : Str → Option Value) (cn' : Str) (cs' : Scope) (a' : Addr) (ccd' : Value) (Q' E' : Value → Shared → Prop), cs'.kind = .function → Fr h₀ L g m → Fr g L' h₁ m' → News g L' h₁ news →
      Below (ktrTop dp un gd cn cs L a ccd cl []) base [envX cn cs L a ccd cl] g → (hd.heap_39 w.params).In g → Top p loose mean mg mb g →
      (∀ v h' tk' news', Fr g L' h' m' → News g L' h' news' → Ret news' → Q' v { s with heap := h', toks := tk' }) →
      (∀ g₂ e h' tk' news', Fr g L' g₂ m' → RaisedSN base g₂ (envX cn' cs' L' a' ccd' [] :: [envX cn cs L a ccd cl]) e (.ref 51) news' h' → g₂.UpToSlots h' → Exc news' → E' (.ref e) { s with heap := h', toks := tk' }) →
      wpAny (model prog w) ((ktrTop dp un gd cn cs L a ccd cl []).deeper (envX cn' cs' L' a' ccd' [])) (call (.ref f) []) Q' E' { s with heap := h₁, toks := tk })
    (ret1 : ∀ h' tk' news', Fr h₀ L h' m → News h₀ L h' news' → Ret news' → Q (.bool true) { s with heap := h', toks := tk' })
    (ret2 : ∀ h' tk' news', Fr h₀ L h' m → News h₀ L h' news' → Exc news' → Q (.bool false) { s with heap := h', toks := tk' }) :
    wpAny (model prog w) (ktrTop dp un gd cn cs L a ccd cl []) (call (.ref 280) [.ref f]) Q E s := by
  refine wpAny_call ?_
  k_dflt (refine' enterTry ?k1 ?k2 ?k3 ?k4 ?k5 ?kA ?kF ?kK ?k6 ?k7 ?k8 ?k9 ?kB ?_ ?c2 ?c3 ?c4 ?c5; (case kA => exact rfl); (case kF => exact rfl); (case kK => assumption); (case k1 => k_asm); (case k2 => k_asm); (case k3 => k_asm); (case k4 => k_asm); (case k5 => k_asm); (case k6 => k_is); (case k7 => k_is); (case k8 => ktr_room); (case k9 => exact BindsTo.of_eq rfl); (case c5 => decide); (case kB => exact locs rfl); (case c2 => exact rfl); (case c3 => exact rfl); (case c4 => exact rfl); k_whole)
  intro g' L' h' FG' F' N' B' X' T' D'
  (try dsimp only)
  k_fold
  k_steps
  unfold Stop
  (rename Fr h₀ _ _ _ => FG)
  refine hcall _ _ _ _ _ _ _ _ _ _ _ rfl (by assumption) (by assumption) (by assumption) (by assumption) (by assumption) (by assumption) ?_ ?_
  · intro v h5 tk5 news5 F5 N5 hR
    k_steps
    exact ret1 _ _ _ (by assumption) (by assumption) hR
  · intro g5 e5 h5 tk5 news5 F5 R5 U5 hX
    k_steps
    unfold Stop
    k_dflt (refine' caught2 R5 F5 ?B U5 XB TB ?D (KtsTurn.refl) ?ex ?q ?_; (case B => assumption); (case D => assumption); (case ex => k_is); (case q => kts_isx); k_whole)
    intro h6 g6 T6 F6 N6 B6 X6 P6 D6
    k_steps
    exact ret2 _ _ _ (by assumption) (by assumption) hX
end Mine

end
section
open PySem PySem.W PyProof.Rows PySem.Calls
namespace Mine
theorem tail_lt {d : Addr} {l : List (Addr × Obj)} (h : AllLt d l) : ∀ p ∈ l, p.1 ≠ d := by
  induction l with
  | nil => intro p hp; cases hp
  | cons q r ih =>
    intro p hp
    rcases List.mem_cons.mp hp with rfl | hp
    · exact Nat.ne_of_lt h.1
    · exact ih h.2 p hp
theorem getD_take {l : List Int} {i j : Nat} (h : j < i) : (l.take i).getD j 0 = l.getD j 0 := by
  simp [List.getD_eq_getElem?_getD, List.getElem?_take, h]
section
variable {prog : Program} {w : World} {A : Around} {s : Shared} {env : Env} {h₀ : Heap} {L : Addr} {m : Str → Option Value} {x : Str} {elt ct : Expr} {scope : Scope} {cl : List (Str × Addr)} {S : List (Addr × Obj) → Prop} {P : Nat → Value → Prop} {Fin : List Value → List (Addr × Obj) → Prop}
/-- a comprehension that makes components -/
theorem crestC {news₀ : List (Addr × Obj)} {n : Nat} (ns : List Int) (hn : ns.length = n) (hS : ∀ nw, S nw) (hP : ∀ i v, P i v → ∃ t, v = .int (0 + (i : Int)) t)
    (turn : ∀ i t I oI C oC D m₂ vs ccs h tk (E' R : Value → Shared → Prop), i < n → LCg.NsObj oC m₂ → m₂ x = some (.int (0 + (i : Int)) t) → Fr h₀ L h m → News h₀ L h ((I, oI) :: (C, oC) :: (D, LCg.lst vs) :: (news₀ ++ ccs)) → LCg.Off3 I C D (news₀ ++ ccs) → ((@Ne Nat I C) ∧ (@Ne Nat I D) ∧ (@Ne Nat C D)) →
      (∀ a d t1 t2 t3 t4 v1 v2 v3 u h' tk', Fr h₀ L h' m → News h₀ L h' ((a, instObj 147 d) :: (d, dictOf [ent w "ident" t1 v1, ent w "across" t2 v2, ent w "down" t3 v3, ent w "quant" t4 (.int (ns.getD (0 + (i : Int)).toNat 0) u)] 4) :: (I, oI) :: (C, oC) :: (D, LCg.lst vs) :: (news₀ ++ ccs)) →
        (AllLt d ((I, oI) :: (C, oC) :: (D, LCg.lst vs) :: (news₀ ++ ccs))) → (@LT.lt Nat _ d a) → R (.ref a) { s with heap := h', toks := tk' }) →
      wpAny (model prog w) A (eval elt (compEnvC scope cl C env)) R E' { s with heap := h, toks := tk })
    (fin : ∀ vs ccs, CompsAt w ccs vs ns → (∀ q ∈ ccs, AllLt q.1 news₀) → Fin vs (news₀ ++ ccs)) :
    LCg.CompRest prog w A h₀ L m env elt x scope cl s S P Fin n 0 [] news₀ := by
  have app : ∀ {d : Addr} {l l' : List (Addr × Obj)}, AllLt d (l ++ l') → AllLt d l := by
    intro d l l' h
    induction l with
    | nil => trivial
    | cons q r ih => exact ⟨h.1, ih h.2⟩
  have trans : ∀ {d a : Addr} {l : List (Addr × Obj)}, AllLt d l → (@LT.lt Nat _ d a) → AllLt a l := by
    intro d a l h k
    induction l with
    | nil => trivial
    | cons q r ih => exact ⟨Nat.lt_trans h.1 k, ih h.2⟩
  have off_of : ∀ {d : Addr} {l : List (Addr × Obj)}, AllLt d l → ∀ p ∈ l, p.1 < d := by
    intro d l h
    induction l with
    | nil => intro p hp; cases hp
    | cons q r ih =>
      intro p hp
      rcases List.mem_cons.mp hp with rfl | hp
      · exact h.1
      · exact ih h.2 p hp
  refine crest (fun i vs nw => ∃ ccs, nw = news₀ ++ ccs ∧ CompsAt w ccs vs (ns.take i) ∧ (∀ q ∈ ccs, AllLt q.1 news₀)) ⟨[], by simp, ⟨by simp, fun i hi => by simp at hi⟩, fun _ h => nomatch h⟩ ?_ ?_
  · rintro i v I oI C oC D m₂ vs nw h tk E' R hi hv ⟨ccs, rfl, hc, hlt⟩ hC hx F N off ne ret
    obtain ⟨t, rfl⟩ := hP i v hv
    refine turn i t I oI C oC D m₂ vs ccs h tk E' R hi hC hx F N off ne ?_
    intro a d t1 t2 t3 t4 v1 v2 v3 u h' tk' F' N' lt1 lt2
    have e0 : (0 + (i : Int)).toNat = i := by omega
    rw [e0] at N'
    have ltI : I < d := lt1.1
    have ltC : C < d := lt1.2.1
    have ltD : D < d := lt1.2.2.1
    have ltn : AllLt d news₀ := app lt1.2.2.2
    have offs := off.mem
    refine ret (.ref a) h' tk' (news₀ ++ ((a, instObj 147 d) :: (d, dictOf [ent w "ident" t1 v1, ent w "across" t2 v2, ent w "down" t3 v3, ent w "quant" t4 (.int (ns.getD i 0) u)] 4) :: ccs)) F' (fun p hp => N' p ?_) (LCg.Off3.of fun p hp => ?_) (hS _) ⟨_, rfl, ⟨?_, ?_⟩, ?_⟩
    · simp only [List.mem_cons, List.mem_append] at hp ⊢
      rcases hp with h | h | h | h | h | h | h <;> simp [h]
    · rcases List.mem_append.mp hp with hp | hp
      · exact offs p (List.mem_append_left _ hp)
      · rcases List.mem_cons.mp hp with rfl | hp
        · exact ⟨Nat.ne_of_gt (Nat.lt_trans ltI lt2), Nat.ne_of_gt (Nat.lt_trans ltC lt2), Nat.ne_of_gt (Nat.lt_trans ltD lt2)⟩
        · rcases List.mem_cons.mp hp with rfl | hp
          · exact ⟨Nat.ne_of_gt ltI, Nat.ne_of_gt ltC, Nat.ne_of_gt ltD⟩
          · exact offs p (List.mem_append_right _ hp)
    · have := hc.1
      simp only [List.length_append, List.length_cons, List.length_nil, List.length_take] at this ⊢
      omega
    · intro j hj
      have hvl : vs.length = i := by have := hc.1; simp only [List.length_take] at this; omega
      have hj' : j < i + 1 := by simp only [List.length_take] at hj; omega
      by_cases hji : j < i
      · obtain ⟨a', d', s1, s2, s3, s4, w1, w2, w3, u', q1, q2, q3⟩ := hc.2 j (by simp only [List.length_take]; omega)
        rw [getD_take hji] at q3
        refine ⟨a', d', s1, s2, s3, s4, w1, w2, w3, u', ?_, List.mem_cons_of_mem _ (List.mem_cons_of_mem _ q2), ?_⟩
        · rw [List.getElem?_append_left (by omega)]; exact q1
        · rw [getD_take hj']; exact List.mem_cons_of_mem _ (List.mem_cons_of_mem _ q3)
      · obtain rfl : j = i := by omega
        refine ⟨a, d, t1, t2, t3, t4, v1, v2, v3, u, ?_, List.mem_cons_self .., ?_⟩
        · rw [List.getElem?_append_right (by omega), hvl]; simp
        · rw [getD_take hj']; exact List.mem_cons_of_mem _ (List.mem_cons_self ..)
    · intro q hq
      rcases List.mem_cons.mp hq with rfl | hq
      · exact trans ltn lt2
      · rcases List.mem_cons.mp hq with rfl | hq
        · exact ltn
        · exact hlt q hq
  · rintro vs nw ⟨ccs, rfl, hc, hlt⟩
    rw [List.take_of_length_le (by omega)] at hc
    exact fin vs ccs hc hlt
end
end Mine

end
section
open PySem PySem.W PyProof.Rows PySem.Calls
namespace Mine
def lawOf : Option (List Stmt × Scope) := match PySem.Challenge.pw_ok0137_01.main.body.getLast? with
  | some (.FunctionDef _ _ b _ _ _ sc _ _ _) => some (b, sc)
  | _ => none
def lawBody : List Stmt := (lawOf.map (·.1)).getD []
def lawScope : Scope := (lawOf.map (·.2)).getD default
abbrev lawEnv (L fa : Addr) : Env := envOfC (PySem.Str.ofString "law") lawScope L fa (.ref 291)
def kmap (he bk : Addr) (u : Str → Option Value) : Str → Option Value := fun y => if y = PySem.Str.ofString "held" then some (.ref he) else if y = PySem.Str.ofString "book" then some (.ref bk) else u y
theorem kmap_of {he bk : Addr} {m : Str → Option Value} (h1 : m (PySem.Str.ofString "held") = some (.ref he)) (h2 : m (PySem.Str.ofString "book") = some (.ref bk)) : m = kmap he bk m := by
  funext y
  unfold kmap
  by_cases q : y = PySem.Str.ofString "held"
  · rw [if_pos q, q, h1]
  · rw [if_neg q]
    by_cases q2 : y = PySem.Str.ofString "book"
    · rw [if_pos q2, q2, h2]
    · rw [if_neg q2]
theorem tail_gt {b d : Addr} {l : List (Addr × Obj)} (h : ∀ q ∈ l, @LT.lt Nat _ b q.1) (hd : @LE.le Nat _ d b) : ∀ p ∈ l, p.1 ≠ d := fun p hp => Nat.ne_of_gt (Nat.lt_of_le_of_lt hd (h p hp))
end Mine

end
section
open PySem PySem.W PyProof.Rows PySem.Calls
namespace Mine
section
variable {prog : Program} {w : World} {A : Around} {E : Value → Shared → Prop} {s : Shared} {env : Env} {h₀ : Heap} {x : Str} {body : List Stmt} {Q : Flow → Shared → Prop}
/-- a loop over a range, the ledger may grow -/
theorem loopG {r : Addr} {a₀ b₀ : Int} {t₀ u₀ v₀ : Tok} {n : Nat} {m₀ : Str → Option Value} {news : List (Addr × Obj)} (J : Nat → (Str → Option Value) → List (Addr × Obj) → Prop)
    (hh : A.handled = none) (hr : IsRange s.heap r a₀ b₀ 1 t₀ u₀ v₀) (hsmall : Builtin.Range.small a₀ b₀ 1 = true) (hn : Builtin.Range.rangeSize a₀ b₀ 1 = (n : Int)) (F : Fr h₀ env.locals s.heap m₀) (N : News h₀ env.locals s.heap news) (hj : J 0 m₀ news)
    (turn : ∀ i t m₁ nw h tk I oI (R : Flow → Shared → Prop), i < n → J i m₁ nw → LCg.Off1 I nw → (∀ p ∈ news, @LT.lt Nat _ p.1 I) → Fr h₀ env.locals h (fun y => if y = x then some (.int (a₀ + (i : Int)) t) else m₁ y) → News h₀ env.locals h ((I, oI) :: nw) →
      (∀ m' nw' h' tk', Fr h₀ env.locals h' m' → News h₀ env.locals h' ((I, oI) :: nw') → LCg.Off1 I nw' → J (i + 1) m' nw' → R .next { s with heap := h', toks := tk' }) →
      (∀ v s', Q (.ret v) s' → R (.ret v) s') → wpAny (model prog w) A (execs body env) R E { s with heap := h, toks := tk })
    (done : ∀ m₁ nw h tk, J n m₁ nw → Fr h₀ env.locals h m₁ → News h₀ env.locals h nw → Q .next { s with heap := h, toks := tk }) :
    wpAny (model prog w) A (pyIter (.ref r)) (fun it s₂ => LoopAtV prog w A h₀ env x body Q E it s₂) E s := by
  have offOf : ∀ {I : Addr} {l : List (Addr × Obj)}, (∀ p ∈ l, p.1 ≠ I) → LCg.Off1 I l := by
    intro I l h
    induction l with
    | nil => trivial
    | cons q r ih => exact ⟨h q (List.mem_cons_self ..), ih fun p hp => h p (List.mem_cons_of_mem _ hp)⟩
  have ofOff : ∀ {I : Addr} {l : List (Addr × Obj)}, LCg.Off1 I l → ∀ p ∈ l, p.1 ≠ I := by
    intro I l h
    induction l with
    | nil => intro p hp; cases hp
    | cons q r ih =>
      intro p hp
      rcases List.mem_cons.mp hp with rfl | hp
      · exact h.1
      · exact ih h.2 p hp
  refine wpAny_pyIter_range hr hsmall ?_
  have W : Walks prog w A s.heap.objs.size [s.heap.objs.size] [s.heap.objs.size] n (fun i v => i < n ∧ ∃ t, v = .int (a₀ + i * 1) t)
      (fun i h => IsRangeIter h s.heap.objs.size (a₀ + (i : Nat) * 1) ((n : Int) - (i : Nat)) 1) := (Walks.range hh _ a₀ 1 n).bound
  refine ⟨_, _, _, n, _, _, m₀, news, J, rfl, W, ?_, ?_, ?_, (by show IsRangeIter _ _ _ _ _; rw [hn]; simpa using Heap.get?_push_size _ rfl), F.push _, (fun p hp => ⟨Heap.get?_push_of_some _ (N p hp).1, (N p hp).2⟩), hj, ?_, ?_⟩
  · intro hm
    exact absurd F.ns.lt ((List.mem_singleton.mp hm) ▸ Nat.lt_irrefl _)
  · intro b hb
    rw [List.mem_singleton.mp hb]
    exact next_is_new F
  · intro p hp hI
    exact absurd (Heap.lt_size (N p hp).1) ((List.mem_singleton.mp hI) ▸ Nat.lt_irrefl _)
  · rintro i v m₁ news₁ s₁ own ⟨hh', tk', rfl⟩ hin ⟨_, t, rfl⟩ hJ hoff hown hget hfp hst F₁ N₁
    have hI0 : h₀.get? s.heap.objs.size = none := next_is_new F
    obtain ⟨oI, hst'⟩ : ∃ oI, hh'.get? s.heap.objs.size = some oI := ⟨_, hst⟩
    have hIown := hfp _ (List.mem_singleton.mpr rfl) hI0 _ hst'
    have e1 : a₀ + (i : Int) * 1 = a₀ + (i : Int) := by omega
    rw [e1] at F₁
    have hne : ∀ p ∈ news₁, p.1 ≠ s.heap.objs.size := fun p hp q => hoff p hp (List.mem_singleton.mpr q)
    refine wpAny_mono (turn i t m₁ news₁ hh' tk' s.heap.objs.size oI (fun f s₂ => match f with | .ret v => Q (.ret v) s₂ | .next => LoopStepU h₀ env.locals [s.heap.objs.size] own (J (i + 1)) { s with heap := hh', toks := tk' } .next s₂ | _ => False) hin hJ (offOf hne) (fun p hp => Heap.lt_size (N p hp).1) F₁ (fun p hp => ?_) ?_ (fun v s' h => h)) (fun f s₂ p => ?_) fun _ _ e => e
    · rcases List.mem_cons.mp hp with rfl | hp
      · exact N₁ _ (List.mem_append_left _ hIown)
      · exact N₁ _ (List.mem_append_right _ hp)
    · intro m' nw' h' tk2 F2 N2 off2 hJ2
      refine ⟨rfl, h', tk2, m', nw', rfl, F2, fun p hp => ?_, fun p hp hq => ofOff off2 p hp (List.mem_singleton.mp hq), hJ2⟩
      rcases List.mem_append.mp hp with hp | hp
      · have h1 : p.1 = s.heap.objs.size := List.mem_singleton.mp (hown p hp)
        have h2 : hh'.get? p.1 = some p.2 := hget p hp
        rw [h1, hst'] at h2
        have h3 : p = (s.heap.objs.size, oI) := Prod.ext h1 (Option.some.inj h2).symm
        rw [h3]
        exact N2 _ (List.mem_cons_self ..)
      · exact N2 _ (List.mem_cons_of_mem _ hp)
    · cases f with
      | ret v => exact .ret p
      | brk => exact False.elim p
      | next => exact .next p
      | cont => exact False.elim p
  · rintro h' tk m' news' F' N' _ hJ
    exact done m' news' h' tk hJ F' N'
end
section
variable {prog : Program} {w : World} {K : Type} [DecidableEq K] {knd : KeyKind prog w K} {A : Around} {E : Value → Shared → Prop} {s : Shared} {h₀ : Heap} {L a b : Addr} {m : Str → Option Value} {news : List (Addr × Obj)} {oa ob : Obj} {kvs : List (K × Value)}
theorem nodup_of {o : Obj} (h : o.IsDictOf knd kvs) : (kvs.map (·.1)).Nodup := by
  obtain ⟨_, _, _, _, _, _, h6⟩ := h
  exact h6
theorem hits_self : ∀ {l kb : List (K × Value)}, (kb.map (·.1)).Nodup → (∀ q ∈ l, q ∈ kb) → KeqHits A s kb l true := by
  intro l kb hn
  induction l with
  | nil => intro _; exact .nil
  | cons q r ih =>
    intro h
    obtain ⟨k, v⟩ := q
    have hm := h (k, v) (List.mem_cons_self ..)
    have hv : valueAt kb k = some v := by
      clear ih h
      induction kb with
      | nil => cases hm
      | cons q' r' ih' =>
        obtain ⟨k', v'⟩ := q'
        rw [List.map_cons, List.nodup_cons] at hn
        by_cases hk : k' = k
        · subst hk
          rcases List.mem_cons.mp hm with e | hm
          · cases e; simp [valueAt]
          · exact absurd (List.mem_map.mpr ⟨_, hm, rfl⟩) hn.1
        · rcases List.mem_cons.mp hm with e | hm
          · cases e; exact absurd rfl hk
          · have := ih' hn.2 hm
            simpa [valueAt, hk] using this
    exact KeqHits.hit hv (SeqAt.EqAt.same _) (ih fun q hq => h q (List.mem_cons_of_mem _ hq))
theorem ne_same {Q : Value → Shared → Prop} (N : News h₀ L s.heap news) (pa : (a, oa) ∈ news) (pb : (b, ob) ∈ news) (da : oa.IsDictOf knd kvs) (db : ob.IsDictOf knd kvs) (la : (a == sysModules) = false) (lb : (b == sysModules) = false) (hu : A.units < cLine)
    (h : Q (.bool false) s) : wpAny (model prog w) A (compareOp .NotEq (.ref a) (.ref b)) Q E s :=
  kne_pairs N pa pb da db la lb rfl hu (hits_self (nodup_of da) fun _ h => h) h
theorem ne_empty {Q : Value → Shared → Prop} (N : News h₀ L s.heap news) (pa : (a, oa) ∈ news) (pb : (b, ob) ∈ news) (da : oa.IsDictOf knd kvs) (db : ob.IsDictOf knd ([] : List (K × Value))) (la : (a == sysModules) = false) (lb : (b == sysModules) = false) (hu : A.units < cLine)
    (h1 : kvs = [] → Q (.bool false) s) (h2 : kvs ≠ [] → Q (.bool true) s) : wpAny (model prog w) A (compareOp .NotEq (.ref a) (.ref b)) Q E s := by
  cases kvs with
  | nil => exact kne_pairs N pa pb da db la lb rfl hu .nil (h1 rfl)
  | cons q r =>
    refine keq_ne (r := false) la lb (Heap.dictOf_iff.mpr ⟨oa, (N _ pa).1, da⟩) (Heap.dictOf_iff.mpr ⟨ob, (N _ pb).1, db⟩) hu (fun e => by simp at e) ?_
    simpa using h2 (by simp)
theorem merged_nil : ∀ {kvs acc : List (K × Value)}, ((acc ++ kvs).map (·.1)).Nodup → merged acc kvs = acc ++ kvs
  | [], acc, _ => by simp [merged]
  | (k, v) :: r, acc, hn => by
    have hk : k ∉ acc.map (·.1) := by
      rw [List.map_append, List.nodup_append] at hn
      intro h
      exact hn.2.2 k h k (by simp) rfl
    have e : stored acc k v = acc ++ [(k, v)] := by
      unfold stored
      rw [if_neg]
      rw [List.any_eq_true]
      rintro ⟨q, hq, hqk⟩
      exact hk (List.mem_map.mpr ⟨q, hq, of_decide_eq_true hqk⟩)
    show merged (stored acc k v) r = _
    rw [e, merged_nil (by simpa using hn)]
    simp
end
section
variable {prog : Program} {w : World} {A : Around} {E : Value → Shared → Prop} {s : Shared} {h₀ : Heap} {L d : Addr} {m : Str → Option Value} {news : List (Addr × Obj)} {o : Obj} {kvs : Bk}
theorem ints_of : ∀ {vs : List Value} {ns : List Int}, vs.length = ns.length → (∀ (j : Nat) (v : Value), vs[j]? = some v → ∃ k t, ns[j]? = some k ∧ v = .int k t) → IntsAre vs ns
  | [], [], _, _ => .nil
  | [], _ :: _, h, _ => by simp at h
  | _ :: _, [], h, _ => by simp at h
  | v :: vs, n :: ns, h, k => by
    obtain ⟨k0, t0, e1, e2⟩ := k 0 v rfl
    have e3 : n = k0 := by simpa using e1
    subst e3
    rw [e2]
    exact .cons n t0 (ints_of (by simpa using h) fun j u hu => k (j + 1) u hu)
theorem sorted_keys {Q : Value → Shared → Prop} (hh : A.handled = none) (F : Fr h₀ L s.heap m) (N : News h₀ L s.heap news) (hp : (d, o) ∈ news) (hd : o.IsDictOf (PySem.intKind prog w) kvs) (lo : (d == sysModules) = false) (hlen : kvs.length < 64)
    (h : ∀ B vs ns c h' tk, Fr h₀ L h' m → News h₀ L h' ((B, listOf vs.toArray c) :: news) → (∀ q ∈ news, q.1 < B) → IntsAre vs ns → ns.Perm (kvs.map (·.1)) → ns.Pairwise (· ≤ ·) → Q (.ref B) { s with heap := h', toks := tk }) :
    wpAny (model prog w) A (call (.builtin "sorted") [.ref d]) Q E s := by
  obtain ⟨ep, hat⟩ := (kda_dict N hp hd).dictAt
  refine kdu_sorted (kdl_dict (knd := PySem.intKind prog w) (kvs := kvs) (ep := ep) lo) hh F N hat (by rw [sizeLine_eq]; omega) fun B h' tk vs F' N' l1 hl hv => ?_
  have hI : IntsAre vs (kvs.map (·.1)) := ints_of (by simpa using hl) fun j v e => by
    obtain ⟨k, x, hx, hk⟩ := hv j v e
    obtain ⟨t, rfl⟩ := PyProof.V.Flat.int_inv (kdl_flat_int hk)
    exact ⟨k, t, by simp [hx], rfl⟩
  have z := N' (B, listOf vs.toArray 0) (List.mem_cons_self ..)
  have ho : h'.get? B = some (seqObj "list" vs.toArray 0) := z.1
  refine wpAny_call_entry PyProof.Rows.slot_list_sort ⟨_, z.1, rfl⟩ PyProof.Rows.entry_list_sort (list_sort_tree (n := 0) (vs := vs) ho hI (by rw [hl]; exact hlen) fun out ns' hI' hp' hP' => ⟨.none, rfl, ?_⟩) (PyProof.Rows.args_list_sort _)
  obtain ⟨c, he⟩ := sortedHeap_at (out := out) ho
  have hk : ∀ b ob, b ∉ [B] → h'.get? b = some ob → (sortedHeap h' B vs out).get? b = some ob := fun b ob hb e => by
    rw [sortedHeap_old (by simpa using hb) (Heap.lt_size e)]; exact e
  refine h B out.toList ns' c _ _ (LCg.fr_but F' hk (Ne.symm z.2.1) z.2.2) (fun p hp2 => ?_) l1 hI' hp' hP'
  rcases List.mem_cons.mp hp2 with rfl | hp2
  · exact ⟨by rw [Array.toArray_toList]; exact he, z.2⟩
  · have n1 := N' p (List.mem_cons_of_mem _ hp2)
    exact ⟨hk _ _ (by simpa using Nat.ne_of_lt (l1 p hp2)) n1.1, n1.2⟩
end
theorem off1_ne {I a : Addr} {o : Obj} {l : List (Addr × Obj)} (h : LCg.Off1 I l) (hm : (a, o) ∈ l) : @Ne Addr I a := by
  induction l with
  | nil => cases hm
  | cons q r ih =>
    rcases List.mem_cons.mp hm with e | hm
    · have h1 : q.1 ≠ I := h.1
      rw [← e] at h1; exact Ne.symm h1
    · exact ih h.2 hm
theorem off1_app {I : Addr} {l t : List (Addr × Obj)} : LCg.Off1 I (l ++ t) ↔ LCg.Off1 I l ∧ LCg.Off1 I t := by
  induction l with
  | nil => exact ⟨fun h => ⟨trivial, h⟩, fun h => h.2⟩
  | cons q r ih => exact ⟨fun h => ⟨⟨h.1, (ih.mp h.2).1⟩, (ih.mp h.2).2⟩, fun h => ⟨h.1.1, ih.mpr ⟨h.1.2, h.2⟩⟩⟩
section
variable {prog : Program} {w : World} {A : Around} {s : Shared} {env : Env} {h₀ : Heap} {L : Addr} {m : Str → Option Value} {x : Str} {elt ct : Expr} {scope : Scope} {cl : List (Str × Addr)} {S : List (Addr × Obj) → Prop} {P : Nat → Value → Prop} {Fin : List Value → List (Addr × Obj) → Prop}
theorem crestTU {src : Addr} {news : List (Addr × Obj)} {g : Obj → List (Addr × Obj)} {x₀ y₀ : Int} {tx₀ ty₀ : Tok} {k₀ : Nat} {n : Nat} (U : UpdF src (srcObj x₀ y₀ tx₀ ty₀ k₀) news g) (hx₀ : 0 ≤ x₀) (hy₀ : 0 ≤ y₀) (hy₁ : y₀ < 2147483647) (hS : ∀ nw, S nw) (hP : ∀ i v, P i v → ∃ t, v = .int (0 + (i : Int)) t)
    (turn : ∀ i t I oI C oC D m₂ ys a ta b tb k h tk (E' : Value → Shared → Prop) (Rb : Bool → Shared → Prop), i < n → 0 ≤ a → 0 ≤ b → b < 2147483647 → LCg.NsObj oC m₂ → m₂ x = some (.int (0 + (i : Int)) t) → Fr h₀ L h m → News h₀ L h ((I, oI) :: (C, oC) :: (D, LCg.lst ys) :: g (srcObj a b ta tb k)) → (@Ne Addr I src) → (@Ne Addr C src) → (@Ne Addr D src) →
      (∀ bb a' ta' b' tb' k' h' tk', 0 ≤ a' → 0 ≤ b' → b' < 2147483647 → Fr h₀ L h' m → News h₀ L h' ((I, oI) :: (C, oC) :: (D, LCg.lst ys) :: g (srcObj a' b' ta' tb' k')) →
        (bb = true → ∀ (R : Value → Shared → Prop), (∀ h'' tk'', Fr h₀ L h'' m → News h₀ L h'' ((I, oI) :: (C, oC) :: (D, LCg.lst ys) :: g (srcObj a' b' ta' tb' k')) → R (.int (0 + (i : Int)) t) { s with heap := h'', toks := tk'' }) →
          wpAny (model prog w) A (eval elt (compEnvC scope cl C env)) R E' { s with heap := h', toks := tk' }) → Rb bb { s with heap := h', toks := tk' }) →
      wpAny (model prog w) A (isTrue ct (compEnvC scope cl C env) (eval ct (compEnvC scope cl C env))) Rb E' { s with heap := h, toks := tk })
    (fin : ∀ ys ns a ta b tb k, IntsAre ys ns → ns.length ≤ n → (∀ c ∈ ns, 0 ≤ c ∧ c < (n : Int)) → 0 ≤ a → 0 ≤ b → b < 2147483647 → Fin ys (g (srcObj a b ta tb k))) :
    LCt.CompRestT prog w A h₀ L m env ct elt x scope cl s S P Fin n 0 [] news := by
  obtain ⟨pre, post, e0, hg, u1, u2⟩ := U.split
  have offg : ∀ {I C D : Addr} (o o' : Obj), LCg.Off3 I C D (g o) → LCg.Off3 I C D (g o') := by
    intro I C D o o' h
    have h1 := h.mem
    refine LCg.Off3.of fun p hp => ?_
    rw [hg] at hp h1
    rcases List.mem_append.mp hp with hp | hp
    · exact h1 p (List.mem_append_left _ hp)
    · rcases List.mem_cons.mp hp with rfl | hp
      · exact h1 (src, o) (List.mem_append_right _ (List.mem_cons_self ..))
      · exact h1 p (List.mem_append_right _ (List.mem_cons_of_mem _ hp))
  refine crestT (fun i ys nw => ∃ ns a ta b tb k, IntsAre ys ns ∧ ns.length ≤ i ∧ (∀ c ∈ ns, 0 ≤ c ∧ c < (n : Int)) ∧ 0 ≤ a ∧ 0 ≤ b ∧ b < 2147483647 ∧ nw = g (srcObj a b ta tb k)) ⟨[], x₀, tx₀, y₀, ty₀, k₀, .nil, Nat.le_refl _, (fun _ h => nomatch h), hx₀, hy₀, hy₁, by rw [hg, e0]⟩ ?_ ?_
  · rintro i v I oI C oC D m₂ ys nw h tk E' Rb hi hv ⟨ns, a, ta, b, tb, k, h1, h2, h3, h4, h5, h6, rfl⟩ hC hx F N off ne rf rt
    obtain ⟨t, rfl⟩ := hP i v hv
    refine turn i t I oI C oC D m₂ ys a ta b tb k h tk E' Rb hi h4 h5 h6 hC hx F N ?_ ?_ ?_ ?_
    iterate 3
      · have hm : (src, srcObj a b ta tb k) ∈ g (srcObj a b ta tb k) := by rw [hg]; exact List.mem_append_right _ (List.mem_cons_self ..)
        have z := off.mem _ hm
        first | exact Ne.symm z.1 | exact Ne.symm z.2.1 | exact Ne.symm z.2.2
    intro bb a' ta' b' tb' k' h' tk' a0 b0 b1 F' N' hel
    cases bb with
    | false => exact rf h' tk' _ F' N' (offg _ _ off) (hS _) ⟨ns, a', ta', b', tb', k', h1, by omega, h3, a0, b0, b1, rfl⟩
    | true =>
      refine rt _ fun R hR => hel rfl R fun h'' tk'' F'' N'' => ?_
      refine hR _ h'' tk'' _ F'' N'' (offg _ _ off) (hS _) ⟨ns ++ [0 + (i : Int)], a', ta', b', tb', k', IntsAre.append h1 (.cons _ t .nil), by simp; omega, ?_, a0, b0, b1, rfl⟩
      intro q hq
      rcases List.mem_append.mp hq with hq | hq
      · exact h3 q hq
      · obtain rfl : q = 0 + (i : Int) := by simpa using hq
        omega
  · rintro ys nw ⟨ns, a, ta, b, tb, k, h1, h2, h3, h4, h5, h6, rfl⟩
    exact fin ys ns a ta b tb k h1 h2 h3 h4 h5 h6
end
end Mine

end
section
open PySem PySem.W PyProof.Rows PySem.Calls
namespace Mine
theorem pos_of {ns : List Int} {m : Nat} (h : ∀ c ∈ ns, 0 ≤ c ∧ c < ((((m : Int) - 0).toNat : Nat) : Int)) : ∀ c ∈ ns, 0 ≤ c ∧ c < (m : Int) := fun c hc => by
  have := h c hc
  omega
section
variable {M : Model} {A : Around} {E : Value → Shared → Prop} {s : Shared} {h₀ : Heap} {L a c P : Addr} {m mg mb : Str → Option Value} {cn : Str} {cs : Scope} {ccd : Value} {cl : List (Str × Addr)} {news tl : List (Addr × Obj)} {g : Obj → List (Addr × Obj)}
  {p : Program} {loose : List Str} {mean : ExcName → Option Value} {name qual : Str} {params : Arguments} {body : Expr} {scope : Scope} {ps : Array Value} {pos : Pos} {firstLine : Nat} {clos : List (Str × Addr)}
theorem lamSpec {Q : Value → Shared → Prop} (F : Fr h₀ L s.heap m) (N : News h₀ L s.heap news) (T : Top p loose mean mg mb h₀) (C : CodeHd h₀ c P) (hcd : ccd = .ref c) (U : UpdF P (tabObj ps) news g) (hsub : ∀ q ∈ tl, q ∈ news)
    (hcode : ps = #[] ∨ ∃ c' oc vs t, (c', oc) ∈ tl ∧ oc.data = .fields vs ∧ vs[1]? = some (.str qual t) ∧ ps = #[rawInt pos.line, rawInt pos.col, .ref c']) (hcl : closureFor scope (envX cn cs L a ccd cl) = pure clos)
    (h : ∀ f c' oc vs t ctv h' tk, Fr h₀ L h' m → News h₀ L h' ((f, kla_obj name qual params body scope clos ((mg "__name__").getD .none) c' ctv) :: (c', oc) :: g (tabObj #[rawInt pos.line, rawInt pos.col, .ref c'])) →
      oc.data = .fields vs → vs[1]? = some (.str qual t) → ((∀ q ∈ news, @LT.lt Nat _ q.1 c') ∨ (c', oc) ∈ tl) → (∀ q ∈ news, @LT.lt Nat _ q.1 f) → Q (.ref f) { s with heap := h', toks := tk }) :
    wpAny M A (makeFunction name qual params (.expr body) scope (envX cn cs L a ccd cl) [] [] [] pos firstLine) Q E s := by
  rcases hcode with rfl | ⟨c', oc, vs, t, hm, hd, hv, rfl⟩
  · refine kla_nest F N T C hcd U trivial rfl hcl fun f c' oc vs t ctv h' tk F' N' d1 d2 l1 l2 => ?_
    exact h f c' oc vs t ctv h' tk F' (by simpa using N') d1 d2 (.inl l1) fun q hq => Nat.lt_trans (l1 q hq) l2
  · obtain ⟨pre, post, e, hg, u1, u2⟩ := U.split
    have hmP : (P, tabObj #[rawInt pos.line, rawInt pos.col, .ref c']) ∈ news := by rw [e]; exact List.mem_append_right _ (List.mem_cons_self ..)
    refine kla_hit (c' := c') F N T C hcd hmP (by simp [TriplesOk, rawInt]) (by unfold codeAmong; simp [rawInt]) hcl fun f ctv h' tk F' N' l1 => ?_
    refine h f c' oc vs t ctv h' tk F' (fun p hp => N' p ?_) hd hv (.inr hm) l1
    rcases List.mem_cons.mp hp with rfl | hp
    · exact List.mem_cons_self ..
    · rcases List.mem_cons.mp hp with rfl | hp
      · exact List.mem_cons_of_mem _ (hsub _ hm)
      · rw [hg] at hp; rw [← e] at hp
        exact List.mem_cons_of_mem _ hp
end
theorem asked_specU {prog : Program} {w : World} {dp un : Nat} {gd : Option (List Code)} {cn : Str} {cs : Scope} {a : Addr} {ccd : Value} {cl : List (Str × Addr)} {A₀ : Around} {base h₀ : Heap} {L : Addr} {m : Str → Option Value} {s : Shared}
    {Q E : Value → Shared → Prop} {p : Program} {loose : List Str} {mean : ExcName → Option Value} {mg mb : Str → Option Value} {news : List (Addr × Obj)} {f d : Addr} {o : Obj} {g : Obj → List (Addr × Obj)} (RetF ExcF : Obj → Prop)
    (B : Below A₀ base [] h₀) (F : Fr h₀ L s.heap m) (X : (hd.heap_39 w.params).In h₀) (N : News h₀ L s.heap news) (T : Top p loose mean mg mb h₀) (XB : (hd.heap_39 w.params).In base) (TB : Top p loose mean mg mb base) (hk : cs.kind = .function)
    {lnm lq : Str} {lpar : Arguments} {lb : Expr} {lsc : Scope} {lcl : List (Str × Addr)} {lpm lct : Value} {lc : Addr} (hf : (f, kla_obj lnm lq lpar lb lsc lcl lpm lc lct) ∈ news) (hUz : UpdF d o news g) (hdp : dp + 1 < recursionLimit) (hu : un + 8 < cLine)
    (hcall : ∀ (g' : Heap) (L' : Addr) (h₁ : Heap) (tk : Nat) (m' : Str → Option Value) (cn' : Str) (cs' : Scope) (a' : Addr) (ccd' : Value) (Q' E' : Value → Shared → Prop), cs'.kind = .function → Fr h₀ L g' m → Fr g' L' h₁ m' → News g' L' h₁ news →
      Below (ktrTop dp un gd cn cs L a ccd cl []) base [envX cn cs L a ccd cl] g' → (hd.heap_39 w.params).In g' → Top p loose mean mg mb g' →
      (∀ v o' h' tk', Fr g' L' h' m' → News g' L' h' (g o') → RetF o' → Q' v { s with heap := h', toks := tk' }) →
      (∀ g₂ e o' h' tk', Fr g' L' g₂ m' → RaisedSN base g₂ (envX cn' cs' L' a' ccd' [] :: [envX cn cs L a ccd cl]) e (.ref 51) (g o') h' → g₂.UpToSlots h' → ExcF o' → E' (.ref e) { s with heap := h', toks := tk' }) →
      wpAny (model prog w) ((ktrTop dp un gd cn cs L a ccd cl []).deeper (envX cn' cs' L' a' ccd' [])) (call (.ref f) []) Q' E' { s with heap := h₁, toks := tk })
    (ret1 : ∀ o' h' tk', Fr h₀ L h' m → News h₀ L h' (g o') → RetF o' → Q (.bool true) { s with heap := h', toks := tk' })
    (ret2 : ∀ o' h' tk', Fr h₀ L h' m → News h₀ L h' (g o') → ExcF o' → Q (.bool false) { s with heap := h', toks := tk' }) :
    wpAny (model prog w) (ktrTop dp un gd cn cs L a ccd cl []) (call (.ref 280) [.ref f]) Q E s :=
  asked_spec (fun nw => ∃ o', nw = g o' ∧ RetF o') (fun nw => ∃ o', nw = g o' ∧ ExcF o') B F X N T XB TB hk hf hdp hu
    (fun g' L' h₁ tk m' cn' cs' a' ccd' Q' E' k F1 F2 N2 B2 X2 T2 r e => hcall g' L' h₁ tk m' cn' cs' a' ccd' Q' E' k F1 F2 N2 B2 X2 T2 (fun v o' h' tk' a b c => r v h' tk' _ a b ⟨o', rfl, c⟩) (fun g₂ e' o' h' tk' a b c d => e g₂ e' h' tk' _ a b c ⟨o', rfl, d⟩))
    (fun h' tk' _ a b c => by obtain ⟨o', rfl, r⟩ := c; exact ret1 o' h' tk' a b r)
    (fun h' tk' _ a b c => by obtain ⟨o', rfl, r⟩ := c; exact ret2 o' h' tk' a b r)
end Mine

end
section
open PySem PySem.W PyProof.Rows PySem.Calls
namespace Mine
theorem asked_specD {prog : Program} {w : World} {dp un : Nat} {gd : Option (List Code)} {cn : Str} {cs : Scope} {a : Addr} {ccd : Value} {cl : List (Str × Addr)} {A₀ : Around} {base h₀ : Heap} {L : Addr} {m : Str → Option Value} {s : Shared}
    {Q E : Value → Shared → Prop} {p : Program} {loose : List Str} {mean : ExcName → Option Value} {mg mb : Str → Option Value} {news : List (Addr × Obj)} {f d : Addr} {o : Obj} {g : Obj → List (Addr × Obj)} {ob : Obj} {K : Bool × Bk} (hKz : ob.IsDictOf (PySem.intKind prog w) K.2)
    (B : Below A₀ base [] h₀) (F : Fr h₀ L s.heap m) (X : (hd.heap_39 w.params).In h₀) (N : News h₀ L s.heap news) (T : Top p loose mean mg mb h₀) (XB : (hd.heap_39 w.params).In base) (TB : Top p loose mean mg mb base) (hk : cs.kind = .function)
    {lnm lq : Str} {lpar : Arguments} {lb : Expr} {lsc : Scope} {lcl : List (Str × Addr)} {lpm lct : Value} {lc : Addr} (hf : (f, kla_obj lnm lq lpar lb lsc lcl lpm lc lct) ∈ news) (U : UpdF d o news g) (hdp : dp + 1 < recursionLimit) (hu : un + 8 < cLine)
    (hcall : ∀ (g' : Heap) (L' : Addr) (h₁ : Heap) (tk : Nat) (m' : Str → Option Value) (cn' : Str) (cs' : Scope) (a' : Addr) (ccd' : Value) (Q' E' : Value → Shared → Prop), cs'.kind = .function → Fr h₀ L g' m → Fr g' L' h₁ m' → News g' L' h₁ news →
      Below (ktrTop dp un gd cn cs L a ccd cl []) base [envX cn cs L a ccd cl] g' → (hd.heap_39 w.params).In g' → Top p loose mean mg mb g' →
      (K.1 = true → ∀ v o' h' tk', Fr g' L' h' m' → News g' L' h' (g o') → o'.IsDictOf (PySem.intKind prog w) K.2 → Q' v { s with heap := h', toks := tk' }) →
      (K.1 = false → ∀ g₂ e o' h' tk', Fr g' L' g₂ m' → RaisedSN base g₂ (envX cn' cs' L' a' ccd' [] :: [envX cn cs L a ccd cl]) e (.ref 51) (g o') h' → g₂.UpToSlots h' → o'.IsDictOf (PySem.intKind prog w) K.2 → E' (.ref e) { s with heap := h', toks := tk' }) →
      wpAny (model prog w) ((ktrTop dp un gd cn cs L a ccd cl []).deeper (envX cn' cs' L' a' ccd' [])) (call (.ref f) []) Q' E' { s with heap := h₁, toks := tk })
    (ret : ∀ o' h' tk', Fr h₀ L h' m → News h₀ L h' (g o') → o'.IsDictOf (PySem.intKind prog w) K.2 → Q (.bool K.1) { s with heap := h', toks := tk' }) :
    wpAny (model prog w) (ktrTop dp un gd cn cs L a ccd cl []) (call (.ref 280) [.ref f]) Q E s :=
  asked_specU (fun o' => o'.IsDictOf (PySem.intKind prog w) K.2 ∧ K.1 = true) (fun o' => o'.IsDictOf (PySem.intKind prog w) K.2 ∧ K.1 = false) B F X N T XB TB hk hf U hdp hu
    (fun g' L' h₁ tk m' cn' cs' a' ccd' Q' E' k F1 F2 N2 B2 X2 T2 r e => hcall g' L' h₁ tk m' cn' cs' a' ccd' Q' E' k F1 F2 N2 B2 X2 T2 (fun t v o' h' tk' a b c => r v o' h' tk' a b ⟨c, t⟩) (fun t g₂ e' o' h' tk' a b c d => e g₂ e' o' h' tk' a b c ⟨d, t⟩))
    (fun o' h' tk' a b c => by have := ret o' h' tk' a b c.1; rw [c.2] at this; exact this)
    (fun o' h' tk' a b c => by have := ret o' h' tk' a b c.1; rw [c.2] at this; exact this)
theorem bne_no {b : Bool} {α : Prop} (h : (b != b) = true) : α := by cases b <;> cases h
theorem lamSpec2 {M : Model} {A : Around} {E : Value → Shared → Prop} {s : Shared} {h₀ : Heap} {L a c P : Addr} {m mg mb : Str → Option Value} {cn : Str} {cs : Scope} {ccd : Value} {cl : List (Str × Addr)} {news : List (Addr × Obj)} {g : Obj → List (Addr × Obj)}
  {p : Program} {loose : List Str} {mean : ExcName → Option Value} {name qual : Str} {params : Arguments} {body : Expr} {scope : Scope} {ps : Array Value} {pos : Pos} {firstLine : Nat} {clos : List (Str × Addr)} {Q : Value → Shared → Prop} {l₁ c₁ : Nat}
    (F : Fr h₀ L s.heap m) (N : News h₀ L s.heap news) (T : Top p loose mean mg mb h₀) (C : CodeHd h₀ c P) (hcd : ccd = .ref c) (U : UpdF P (tabObj ps) news g)
    (hcode : ps = #[] ∨ ∃ c', ps = #[rawInt l₁, rawInt c₁, .ref c']) (hno : ∀ c', codeAmong pos [rawInt l₁, rawInt c₁, .ref c'] = none) (hcl : closureFor scope (envX cn cs L a ccd cl) = pure clos)
    (h : ∀ f c' oc vs t ctv h' tk ps', Fr h₀ L h' m → News h₀ L h' ((f, kla_obj name qual params body scope clos ((mg "__name__").getD .none) c' ctv) :: (c', oc) :: g (tabObj ps')) →
      oc.data = .fields vs → vs[1]? = some (.str qual t) → (∀ q ∈ news, @LT.lt Nat _ q.1 c') → (∀ q ∈ news, @LT.lt Nat _ q.1 f) → Q (.ref f) { s with heap := h', toks := tk }) :
    wpAny M A (makeFunction name qual params (.expr body) scope (envX cn cs L a ccd cl) [] [] [] pos firstLine) Q E s := by
  have ht : TriplesOk ps.toList ∧ codeAmong pos ps.toList = none := by
    rcases hcode with rfl | ⟨c', rfl⟩
    · exact ⟨trivial, rfl⟩
    · exact ⟨by simp [TriplesOk, rawInt], hno c'⟩
  refine kla_nest F N T C hcd U ht.1 ht.2 hcl fun f c' oc vs t ctv h' tk F' N' d1 d2 l1 l2 => ?_
  exact h f c' oc vs t ctv h' tk _ F' N' d1 d2 l1 fun q hq => Nat.lt_trans (l1 q hq) l2
theorem rk_pos {n : Nat} : ∀ c ∈ rangeKs 0 n, 0 ≤ c ∧ c < ((((n : Int) - 0).toNat : Nat) : Int) := by
  intro c hc
  unfold rangeKs at hc
  obtain ⟨i, hi, rfl⟩ := List.mem_map.mp hc
  have := List.mem_range.mp hi
  omega
theorem list_len {prog : Program} {w : World} {A : Around} {E : Value → Shared → Prop} {s : Shared} {h₀ : Heap} {L r : Addr} {m : Str → Option Value} {news : List (Addr × Obj)} {t₀ u₀ v₀ : Tok} {n : Nat} {Q : Value → Shared → Prop}
    (hh : A.handled = none) (F : Fr h₀ L s.heap m) (N : News h₀ L s.heap news) (hr : IsRange s.heap r 0 (n : Int) 1 t₀ u₀ v₀) (hn : n ≤ 1000)
    (h : ∀ D us c h' tk, Fr h₀ L h' m → News h₀ L h' ((D, listOf (List.toArray us) c) :: news) → (∀ p ∈ news, @LT.lt Nat _ p.1 D) → IntsAre us (rangeKs 0 n) → (rangeKs 0 n).length = n → (∀ c ∈ rangeKs 0 n, 0 ≤ c ∧ c < ((((n : Int) - 0).toNat : Nat) : Int)) → Q (.ref D) { s with heap := h', toks := tk }) :
    wpAny (model prog w) A (call (.type "list") [.ref r]) Q E s := by
  refine kll_range (n := n) hh F N hr (small_one (by omega) (by omega) (by omega) (by omega)) (by rw [rangeSize_nat]; omega) (by omega) fun D us c h' tk F' N' l1 hi => ?_
  exact h D us c h' tk F' N' l1 hi (by rw [rangeKs_length]) rk_pos
end Mine

end
section
open PySem PySem.W PyProof.Rows PySem.Calls
namespace Mine
theorem key_mem : ∀ {l : Bk} {k : Int}, (valueAt l k).isSome = true → k ∈ l.map (·.1)
  | [], k, h => by simp [valueAt] at h
  | q :: r, k, h => by
    by_cases e : q.1 = k
    · simp [e]
    · have : (valueAt r k).isSome = true := by simpa [valueAt, e] using h
      exact List.mem_cons_of_mem _ (key_mem this)
theorem stored_mem {l : Bk} {k : Int} {v : Value} {p : Int} (h : p = k ∨ p ∈ l.map (·.1)) : p ∈ (stored l k v).map (·.1) := by
  unfold stored
  split
  · rename_i hs
    have hk : p ∈ l.map (·.1) := by
      rcases h with rfl | h
      · obtain ⟨x, hx⟩ : ∃ x, (p, x) ∈ l := by simpa using hs
        exact List.mem_map.mpr ⟨_, hx, rfl⟩
      · exact h
    obtain ⟨q, hq, rfl⟩ := List.mem_map.mp hk
    rw [List.map_map]
    refine List.mem_map.mpr ⟨q, hq, ?_⟩
    simp only [Function.comp]
    split <;> rfl
  · rw [List.map_append, List.mem_append]
    rcases h with rfl | h
    · exact .inr (by simp)
    · exact .inl h
theorem kall_mem {sls : List Int} {kh : Bk} : ∀ {pls : List Int} {b : Bk}, (kall sls kh pls b).1 = true → ∀ p, p ∈ pls ∨ p ∈ b.map (·.1) → p ∈ (kall sls kh pls b).2.map (·.1)
  | [], b, _, p, h => by
    rcases h with h | h
    · cases h
    · exact h
  | q :: r, b, hk, p, h => by
    simp only [kall] at hk ⊢
    split
    · rename_i h1
      rw [if_pos h1] at hk
      refine kall_mem hk p ?_
      rcases h with h | h
      · rcases List.mem_cons.mp h with rfl | h
        · exact .inr (key_mem h1)
        · exact .inl h
      · exact .inr h
    · rename_i h1
      rw [if_neg h1] at hk
      split at hk
      · refine kall_mem hk p ?_
        rcases h with h | h
        · rcases List.mem_cons.mp h with rfl | h
          · exact .inr (stored_mem (.inl rfl))
          · exact .inl h
        · exact .inr (stored_mem (.inr h))
      · cases hk
theorem sorted_range : ∀ (n : Nat) (a : Int) (l : List Int), l.Pairwise (· < ·) → (∀ x, x ∈ l ↔ a ≤ x ∧ x < a + (n : Int)) → l = rangeKs a n
  | 0, a, l, _, h => by
    cases l with
    | nil => rfl
    | cons b r => have := (h b).mp (List.mem_cons_self ..); omega
  | n + 1, a, l, hp, h => by
    have ha : a ∈ l := (h a).mpr (by omega)
    cases l with
    | nil => cases ha
    | cons b r =>
      have hb := (h b).mp (List.mem_cons_self ..)
      obtain ⟨h1, h2⟩ := List.pairwise_cons.mp hp
      have e : b = a := by
        rcases List.mem_cons.mp ha with e | hr
        · exact e.symm
        · have := h1 a hr; omega
      subst e
      rw [kll_cons]
      congr 1
      refine sorted_range n (b + 1) r h2 fun x => ⟨fun hx => ?_, fun hx => ?_⟩
      · have q1 := h1 x hx
        have q2 := (h x).mp (List.mem_cons_of_mem _ hx)
        omega
      · have := (h x).mpr (by omega)
        rcases List.mem_cons.mp this with e | hr
        · omega
        · exact hr
theorem rk_mem {n : Nat} {x : Int} : x ∈ rangeKs 0 n ↔ 0 ≤ x ∧ x < (n : Int) := by
  unfold rangeKs
  constructor
  · intro hc
    obtain ⟨i, hi, rfl⟩ := List.mem_map.mp hc
    have := List.mem_range.mp hi
    omega
  · intro h
    exact List.mem_map.mpr ⟨x.toNat, List.mem_range.mpr (by omega), by omega⟩
theorem keys_all {sls : List Int} {kh kb : Bk} {ns : List Int} (hk : (kall sls kh (rangeKs 0 sls.length) kb).1 = true) (hkb : ∀ q ∈ kb, 0 ≤ q.1 ∧ q.1 < (sls.length : Int))
    (hnd : ((kall sls kh (rangeKs 0 sls.length) kb).2.map (·.1)).Nodup) (hp : ns.Perm ((kall sls kh (rangeKs 0 sls.length) kb).2.map (·.1))) (ho : ns.Pairwise (· ≤ ·))
    (hrange : ∀ q ∈ (kall sls kh (rangeKs 0 sls.length) kb).2, 0 ≤ q.1 ∧ q.1 < (sls.length : Int)) : ns = rangeKs 0 sls.length := by
  have hnn : ns.Nodup := hp.nodup_iff.mpr hnd
  refine sorted_range _ _ _ ?_ fun x => ?_
  · refine List.Pairwise.imp₂ (R := fun a b => a ≤ b) (S := fun a b => a ≠ b) (fun a b h1 h2 => ?_) ho hnn
    omega
  · rw [hp.mem_iff]
    constructor
    · intro hx
      obtain ⟨q, hq, rfl⟩ := List.mem_map.mp hx
      have := hrange q hq
      omega
    · intro hx
      exact kall_mem hk x (.inl (rk_mem.mpr (by omega)))
section
variable {prog : Program} {w : World} {A : Around} {s : Shared} {env : Env} {h₀ : Heap} {L : Addr} {m : Str → Option Value} {x : Str} {elt ct : Expr} {scope : Scope} {cl : List (Str × Addr)} {S : List (Addr × Obj) → Prop} {P : Nat → Value → Prop} {Fin : List Value → List (Addr × Obj) → Prop}
theorem crestQ {css : List Value} {sls : List Int} {ccs news : List (Addr × Obj)} {n : Nat} (hn : n = sls.length) (hcc : CompsAt w ccs css sls) (hsub : ∀ q ∈ ccs, q ∈ news) (hS : S news) (hP : ∀ i v, P i v → css[i]? = some v)
    (turn : ∀ i a d t1 t2 t3 t4 v1 v2 v3 u I oI C oC D m₂ ys h tk (E' R : Value → Shared → Prop), (a, instObj 147 d) ∈ (I, oI) :: (C, oC) :: (D, LCg.lst ys) :: news →
      (d, dictOf [ent w "ident" t1 v1, ent w "across" t2 v2, ent w "down" t3 v3, ent w "quant" t4 (.int (sls.getD i 0) u)] 4) ∈ (I, oI) :: (C, oC) :: (D, LCg.lst ys) :: news →
      LCg.NsObj oC m₂ → m₂ x = some (.ref a) → Fr h₀ L h m → News h₀ L h ((I, oI) :: (C, oC) :: (D, LCg.lst ys) :: news) →
      (∀ h' tk', Fr h₀ L h' m → News h₀ L h' ((I, oI) :: (C, oC) :: (D, LCg.lst ys) :: news) → R (.int (sls.getD i 0) u) { s with heap := h', toks := tk' }) →
      wpAny (model prog w) A (eval elt (compEnvC scope cl C env)) R E' { s with heap := h, toks := tk })
    (fin : ∀ ys, IntsAre ys sls → Fin ys news) : LCg.CompRest prog w A h₀ L m env elt x scope cl s S P Fin n 0 [] news := by
  subst hn
  refine crest (fun i ys nw => nw = news ∧ IntsAre ys (sls.take i)) ⟨rfl, by simpa using IntsAre.nil⟩ ?_ ?_
  · rintro i v I oI C oC D m₂ ys nw h tk E' R hi hv ⟨rfl, hys⟩ hC hx F N off ne ret
    obtain ⟨a, d, t1, t2, t3, t4, v1, v2, v3, u, hx2, ha, hd⟩ := hcc.2 i hi
    rw [hP i v hv] at hx2
    cases hx2
    refine turn i a d t1 t2 t3 t4 v1 v2 v3 u I oI C oC D m₂ ys h tk E' R (List.mem_cons_of_mem _ (List.mem_cons_of_mem _ (List.mem_cons_of_mem _ (hsub _ ha)))) (List.mem_cons_of_mem _ (List.mem_cons_of_mem _ (List.mem_cons_of_mem _ (hsub _ hd)))) hC hx F N fun h' tk' F' N' => ?_
    refine ret _ h' tk' _ F' N' off hS ⟨rfl, ?_⟩
    have e : sls.take (i + 1) = sls.take i ++ [sls.getD i 0] := by
      rw [List.take_add_one]
      congr 1
      simp [hi]
    rw [e]
    exact IntsAre.append hys (.cons _ u .nil)
  · rintro ys nw ⟨rfl, hys⟩
    rw [List.take_length] at hys
    exact fin ys hys
end
end Mine

end
section
open PySem PySem.W PyProof.Rows PySem.Calls
namespace Mine
section
variable {prog : Program} {w : World} {K : Type} [DecidableEq K] {knd : KeyKind prog w K} {A : Around} {E : Value → Shared → Prop} {s : Shared} {h₀ : Heap} {L d d₂ : Addr} {m : Str → Option Value} {news : List (Addr × Obj)} {g : Obj → List (Addr × Obj)} {o o₂ : Obj} {kvs : List (K × Value)}
theorem upd_empty {Q : Value → Shared → Prop} (F : Fr h₀ L s.heap m) (N : News h₀ L s.heap news) (U : UpdF d o news g) (hd : o.IsDictOf knd []) (hp : (d₂, o₂) ∈ news) (hd₂ : o₂.IsDictOf knd kvs) (lo : (d₂ == sysModules) = false) (hne : d ≠ d₂) (hn : (kvs.map (·.1)).Nodup) (hsz : kvs.length ≤ sizeLine)
    (h : ∀ h' o', Fr h₀ L h' m → News h₀ L h' (g o') → o'.IsDictOf knd kvs → Q .none { s with heap := h' }) : wpAny (model prog w) A (call (.builtin "dict.update") [.ref d, .ref d₂]) Q E s := by
  have hD₂ : s.heap.DictOf knd d₂ kvs := Heap.dictOf_iff.mpr ⟨o₂, (N _ hp).1, hd₂⟩
  obtain ⟨pre, post, rfl, hg, a, b⟩ := U.split
  have hm := N (d, o) (List.mem_append_right _ (.head _))
  have hD : s.heap.DictOf knd d [] := Heap.dictOf_iff.mpr ⟨o, hm.1, hd⟩
  refine call_meetsIn PySem.F.slot_dict_update hD.typeIs PySem.F.entry_dict_update (PySem.F.args_dict_update_2 _ _) (meets_dict_update knd d d₂ hne lo)
    ⟨[], kvs, hD, hD₂, (by simpa using hsz), fun h' hmm _ hs => ?_⟩
  obtain ⟨o', ho', hd'⟩ := Heap.dictOf_iff.mp hmm
  rw [merged_nil (by simpa using hn)] at hd'
  exact h h' o' (F.change hs hm.2.1 hm.2.2) (hg o' ▸ N.setIn a b hs ho') (by simpa using hd')
end
end Mine

end
section
open PySem PySem.W PyProof.Rows PySem.Calls
namespace Mine
set_option maxRecDepth 100000
set_option maxHeartbeats 40000000
theorem fillS1 : (PySem.Challenge.rw_ok0137_01 = PySem.Challenge.rw_ok0137_01) → (hd.heap_39 = hd.heap_39) → True := by k_fill; intros; trivial
local macro_rules | `(tactic| walk_at "pyIter ref") => `(tactic| (k_here; refine stop ?_))
local macro_rules | `(tactic| walk_at "exec For Name Call cons nil") => `(tactic| (k_here; (rename Fr _ _ _ _ => lF'); (with_unfolding_all refine' For_invVF lF' ?k1 ?k2 ?_; (case k1 => exact rfl); (case k2 => exact rfl); k_whole)))
local macro_rules | `(tactic| k_all) => `(tactic| first | with_reducible assumption | exact tail_gt (by with_reducible assumption) (by omega) | (refine tail_lt ?_; (iterate 45 (try (first | with_reducible assumption | refine' And.right ?_))); done))
local macro_rules | `(tactic| walk_at "call ref") => `(tactic| (k_here; (with_reducible show wpAny _ _ (call (Value.ref 266) _) _ _ _); k_dflt (refine' take_spec ?B ?F ?X ?N ?T ?hk ?U ?hx ?hy ?hy2 ?ht ?ht2 ?hd ?hu ?_; (case B => k_asm); (case F => k_asm); (case X => k_asm); (case N => k_asm); (case T => k_asm); (case hk => exact rfl); (case U => k_updF); (case hx => assumption); (case hy => assumption); (case hy2 => assumption); (case ht => omega); (case ht2 => omega); (case hd => decide); (case hu => decide)); intro gt' gtt' x' tx' y' ty' n' h' tk' hg0' hg1' hx' hy0' hy1' F' N'; (try dsimp only at N')))
theorem size3 {l : Bk} (h : l.length ≤ 4) : l.length ≤ sizeLine := by rw [sizeLine_eq]; omega
theorem len64 {l : Bk} (h : l.length ≤ 4) : l.length < 64 := by omega
theorem short_of : ∀ (n : Nat) (l : List Int), l.Nodup → (∀ x ∈ l, 0 ≤ x ∧ x < (n : Int)) → l.length ≤ n
  | 0, l, _, h => by
    cases l with
    | nil => exact Nat.le_refl _
    | cons a r => have := h a (List.mem_cons_self ..); omega
  | n + 1, l, hn, h => by
    by_cases hm : (n : Int) ∈ l
    · have h1 := short_of n (l.erase (n : Int)) (hn.erase _) fun x hx => by
        have h2 := hn.mem_erase_iff.mp hx
        have h3 := h x h2.2
        have := h2.1
        omega
      rw [List.length_erase_of_mem hm] at h1
      omega
    · have := short_of n l hn fun x hx => by
        have h3 := h x hx
        have : x ≠ (n : Int) := fun e => hm (e ▸ hx)
        omega
      omega
theorem short4 {l : Bk} {n : Int} (hn : (l.map (·.1)).Nodup) (h : ∀ q ∈ l, 0 ≤ q.1 ∧ q.1 < n) (h4 : n ≤ 4) : l.length ≤ 4 := by
  have := short_of 4 (l.map (·.1)) hn fun x hx => by
    obtain ⟨q, hq, rfl⟩ := List.mem_map.mp hx
    have := h q hq
    omega
  simpa using this
local macro_rules | `(tactic| walk_at "setItem ref int") => `(tactic| (k_here; k_dflt (refine' kda_set (knd := PySem.intKind _ _) ?F ?N ?U ?d (intKind_is _ _ _ _) ?z ?_; (case F => k_asm); (case N => k_asm); (case U => k_updF); (case d => k_asm); (case z => exact size3 (by assumption))); intro h' o' F' N' hd'; (try dsimp only at N')))
local macro_rules | `(tactic| walk_at "compareOp NotEq ref ref") => `(tactic| (k_here; (with_reducible show wpAny _ _ (compareOp CmpOp.NotEq (Value.ref _) (Value.ref _)) _ _ _); k_dflt (refine' ne_same (knd := PySem.intKind _ _) ?N ?a ?b ?da ?db ?la ?lb ?u ?_; (case N => k_asm); (case a => k_mem); (case b => k_mem); (case da => k_asm); (case db => k_asm); (case la => k_asm); (case lb => k_asm); (case u => k_units))))
local macro_rules | `(tactic| walk_at "compareOp NotEq ref ref") => `(tactic| (k_here; (with_reducible show wpAny _ _ (compareOp CmpOp.NotEq (Value.ref _) (Value.ref _)) _ _ _); k_dflt (refine' ne_empty (knd := PySem.intKind _ _) ?N ?a ?b ?da ?db ?la ?lb ?u ?_ ?_; (case N => k_asm); (case a => k_mem); (case b => k_mem); (case da => k_asm); (case db => k_asm); (case la => k_asm); (case lb => k_asm); (case u => k_units)); (all_goals intro hz')))
local macro_rules | `(tactic| walk_at "call builtin:sorted") => `(tactic| (k_here; (with_reducible show wpAny _ _ (call (Value.builtin "sorted") [Value.ref _]) _ _ _); k_dflt (refine' sorted_keys ?hh ?F ?N ?p ?d ?lo ?z ?_; (case hh => exact rfl); (case F => k_asm); (case N => k_asm); (case p => k_mem); (case d => k_asm); (case lo => k_asm); (case z => exact len64 (by assumption))); intro B' vs' ns' c' h' tk' F' N' l1 hi' hp' ho'; (try k_lt l1)))
theorem perm_pos {l : Bk} {ns : List Int} (h : ns.Perm (l.map (·.1))) (hz : l ≠ []) : 0 < ns.length := by
  rw [h.length_eq, List.length_map]
  cases l with
  | nil => exact absurd rfl hz
  | cons q r => simp
theorem perm_le {l : Bk} {ns : List Int} (h : ns.Perm (l.map (·.1))) (hz : l.length ≤ 4) : ns.length ≤ 9 := by
  rw [h.length_eq, List.length_map]; omega
theorem has_key : ∀ {l : Bk} {k : Int}, k ∈ l.map (·.1) → ∃ v, valueAt l k = some v
  | q :: r, k, h => by
    by_cases e : q.1 = k
    · exact ⟨q.2, by simp [valueAt, e]⟩
    · have : k ∈ r.map (·.1) := by
        rcases List.mem_cons.mp h with h | h
        · exact absurd h.symm e
        · exact h
      obtain ⟨v, hv⟩ := has_key this
      exact ⟨v, by simpa [valueAt, e] using hv⟩
theorem perm_val {l : Bk} {ns : List Int} {k : Int} (h : ns.Perm (l.map (·.1))) (hk : k ∈ ns) : ∃ v, valueAt l k = some v := has_key (h.mem_iff.mp hk)
theorem stored_keys {l : Bk} {k n : Int} {v : Value} (h : ∀ q ∈ l, 0 ≤ q.1 ∧ q.1 < n) (h0 : 0 ≤ k) (h1 : k < n) : ∀ q ∈ stored l k v, 0 ≤ q.1 ∧ q.1 < n := by
  intro q hq
  unfold stored at hq
  split at hq
  · obtain ⟨q', hq', e⟩ := List.mem_map.mp hq
    have h2 := h q' hq'
    split at e
    · rw [← e]; exact h2
    · rw [← e]; exact h2
  · rcases List.mem_append.mp hq with hq | hq
    · exact h _ hq
    · obtain rfl : q = (k, v) := by simpa using hq
      exact ⟨h0, h1⟩
theorem without_keys {l : Bk} {k n : Int} (h : ∀ q ∈ l, 0 ≤ q.1 ∧ q.1 < n) : ∀ q ∈ without l k, 0 ≤ q.1 ∧ q.1 < n := fun q hq => h q (List.mem_filter.mp hq).1
theorem kall_keys {sls : List Int} {kh : Bk} {n : Int} : ∀ {pls : List Int} {b : Bk}, (∀ q ∈ b, 0 ≤ q.1 ∧ q.1 < n) → (∀ p ∈ pls, 0 ≤ p ∧ p < n) → ∀ q ∈ (kall sls kh pls b).2, 0 ≤ q.1 ∧ q.1 < n
  | [], b, h, _ => h
  | p :: r, b, h, hp => by
    have h0 := hp p (List.mem_cons_self ..)
    have hr : ∀ p ∈ r, 0 ≤ p ∧ p < n := fun p hq => hp p (List.mem_cons_of_mem _ hq)
    simp only [kall]
    split
    · exact kall_keys h hr
    · split
      · exact kall_keys (stored_keys h h0.1 h0.2) hr
      · exact h
local macro_rules | `(tactic| walk_at "call ref") => `(tactic| (k_here; (with_reducible show wpAny _ _ (call (Value.ref 273) _) _ _ _); k_dflt (refine' one_spec ?B ?F ?X ?N ?T ?hk ?U ?ht ?hi ?hne ?l0 ?l1 ?hx ?hy ?hy2 ?hd ?hu ?_; (case B => k_asm); (case F => k_asm); (case X => k_asm); (case N => k_asm); (case T => k_asm); (case hk => exact rfl); (case U => k_updF); (case ht => k_mem); (case hi => assumption); (case hne => k_ne); (case l0 => exact perm_pos (by assumption) (by assumption)); (case l1 => exact perm_le (by assumption) (by assumption)); (case hx => assumption); (case hy => assumption); (case hy2 => assumption); (case hd => decide); (case hu => decide)); intro k' t' x' tx' y' ty' n' h' tk' hk' hx' hy0' hy1' F' N'; (have hv' := perm_val (by assumption) hk'); (obtain ⟨v', hv'⟩ := hv'); (try dsimp only at N')))
local macro_rules | `(tactic| walk_at "getMethod ref") => `(tactic| (k_here; (with_reducible show wpAny _ _ (getMethod (Value.ref _) (PySem.Str.ofString "pop") _) _ _ _); k_dflt (refine' kob_method (knd := PySem.intKind _ _) PySem.F.slot_dict_pop PySem.F.type_dict_pop ?N ?p ?d ?_; (case N => k_asm); (case p => k_mem); (case d => k_asm))))
local macro_rules | `(tactic| walk_at "call builtin:dict.pop") => `(tactic| (k_here; k_dflt (refine' kob_pop (more := []) (knd := PySem.intKind _ _) ?F ?N ?U ?d (intKind_is _ _ _ _) (.inl rfl) (by rfl) (PySem.F.args_dict_pop_2 _ _) ?l ?z ?_; (case F => k_asm); (case N => k_asm); (case U => k_updF); (case d => k_asm); (case l => assumption); (case z => exact size3 (by assumption))); intro h' o' F' N' hd'; (try dsimp only at N')))
local macro_rules | `(tactic| walk_at "eval Lambda") => `(tactic| (k_here; refine stop ?_))
local macro_rules | `(tactic| walk_at "CompSrcT") => `(tactic| (k_here; refine stop ?_))
local macro_rules | `(tactic| walk_at "exec Assign cons ListComp") => `(tactic| (k_here; refine wpAny_Assign_Name ?_))
local macro_rules | `(tactic| walk_at "eval ListComp") => `(tactic| (k_here; k_dflt (refine LCt.ListComp_T (F₀ := by k_asm) (by with_unfolding_all rfl) (by decide) (by rfl) (by decide) (by rfl) ?_)))
local macro_rules | `(tactic| k_ne) => `(tactic| first | with_reducible assumption | ((try dsimp only); first | (refine Nat.ne_of_lt ?_; (repeat (first | with_reducible assumption | (with_reducible refine Nat.lt_trans ?_ (by with_reducible assumption)))); done) | (refine Nat.ne_of_gt ?_; (repeat (first | with_reducible assumption | (with_reducible refine Nat.lt_trans ?_ (by with_reducible assumption)))); done)))
local macro_rules | `(tactic| walk_at "call ref") => `(tactic| (k_here; (with_reducible show wpAny _ _ (call (Value.ref 287) _) _ _ _); k_dflt (refine' kept_spec ?B ?F ?X ?N ?T ?hk ?U ?ob ?p ?ps ?s ?ss ?h ?oh ?lo1 ?lo2 ?n1 ?n2 ?n3 ?pos ?len ?sl ?hd ?hu ?_; (case B => k_asm); (case F => k_asm); (case X => k_asm); (case N => k_asm); (case T => k_asm); (case hk => exact rfl); (case U => k_updF); (case ob => k_asm); (case p => k_mem); (case ps => assumption); (case s => k_mem); (case ss => assumption); (case h => k_mem); (case oh => k_asm); (case lo1 => k_asm); (case lo2 => k_asm); (case n1 => k_ne); (case n2 => k_ne); (case n3 => k_ne); (case pos => exact pos_of (by assumption)); (case len => omega); (case sl => omega); (case hd => decide); (case hu => decide)); intro o' h' tk' F' N' hd'; (try dsimp only at N')))
local macro_rules | `(tactic| walk_at "call ref") => `(tactic| (k_here; (with_reducible show wpAny _ _ (call (Value.ref 280) _) _ _ _); refine stop ?_))
local macro_rules | `(tactic| walk_at "call ref") => `(tactic| (k_here; (with_reducible show wpAny _ _ (call (Value.ref 116) _) _ _ _); refine stop ?_))
local macro_rules | `(tactic| walk_at "call ref") => `(tactic| (k_here; (with_reducible show wpAny _ _ (call (Value.ref 123) _) _ _ _); refine stop ?_))
def CodeSt (ps : Array Value) (tl : List (Addr × Obj)) : Prop := ps = #[] ∨ ∃ c' oc vs t, (c', oc) ∈ tl ∧ oc.data = .fields vs ∧ vs[1]? = some (.str (PySem.Str.ofString "law.<locals>.<lambda>") t) ∧ ps = #[rawInt 160, rawInt 26, .ref c']
theorem codeSt0 {tl : List (Addr × Obj)} : CodeSt #[] tl := .inl rfl
def led (w : World) (L src sl pa pd ta td tq pq he bk fa fd cla : Addr) (ss css : List Value) (sn cln : Nat) (t1 t2 t3 t4 t5 t6 t7 t8 r1 r2 r3 f1 f2 f3 f4 f5 f6 : Tok) (v1 v3 v6 v7 v8 y2 y3 z1 z2 z3 z4 z6 : Value) (oS oL oP : Obj) (x y : Int) (tx ty : Tok) (k : Nat) (otq opq ohe obk oN : Obj) (ps : Array Value) : List (Addr × Obj) := [(cla, listOf css.toArray cln), (fa, instObj 213 fd), (fd, dictOf [ent w "kind" f1 z1, ent w "precision" f2 z2, ent w "height" f3 z3, ent w "width" f4 z4, ent w "components" f5 (.ref cla), ent w "n" f6 z6] 6),
      (bk, obk), (he, ohe), (pq, opq), (tq, otq), (ta, instObj 84 td), (td, dictOf [ent w "quant" r1 (.ref tq), ent w "codes" r2 y2, ent w "conditioning" r3 y3] 3),
      (pa, instObj 105 pd), (pd, dictOf [ent w "n" t1 v1, ent w "frame" t2 (.ref fa), ent w "grid" t3 v3, ent w "tables" t4 (.ref ta), ent w "quant" t5 (.ref pq), ent w "apps" t6 v6, ent w "scans" t7 v7, ent w "interval" t8 v8] 8),
      (sl, listOf ss.toArray sn), (src, srcObj x y tx ty k), (L + 1 + 1 + 1 + 1, oN), (L + 1 + 1 + 1, oP), (L + 1 + 1, oL), (L + 1, oS), (289, tabObj ps)]
theorem chain_ne7 {pd pa td ta tq pq he bk fd fa : Addr} (l5 : @LT.lt Nat _ pd pa) (l6 : @LT.lt Nat _ pa td) (l7 : @LT.lt Nat _ td ta) (l8 : @LT.lt Nat _ ta tq) (l9 : @LT.lt Nat _ tq pq) (l10 : @LT.lt Nat _ pq he) (l11 : @LT.lt Nat _ he bk) (l12 : @LT.lt Nat _ bk fd) (l13 : @LT.lt Nat _ fd fa) :
    pa ≠ pq ∧ pd ≠ pq ∧ ta ≠ pq ∧ td ≠ pq ∧ tq ≠ pq ∧ fa ≠ pq ∧ fd ≠ pq := by
  refine ⟨Nat.ne_of_lt ?_, Nat.ne_of_lt ?_, Nat.ne_of_lt ?_, Nat.ne_of_lt ?_, Nat.ne_of_lt ?_, Nat.ne_of_gt ?_, Nat.ne_of_gt ?_⟩ <;> omega
abbrev Jt (prog : Program) (w : World) (L src sl pa pd ta td tq pq he bk fa fd cla : Addr) (ss css : List Value) (sn cln : Nat) (t1 t2 t3 t4 t5 t6 t7 t8 r1 r2 r3 f1 f2 f3 f4 f5 f6 : Tok) (v1 v3 v6 v7 v8 y2 y3 z1 z2 z3 z4 z6 : Value) (oS oL oP : Obj) (sls : List Int) (ccs : List (Addr × Obj)) (m : Str → Option Value) (nw : List (Addr × Obj)) : Prop :=
  m (PySem.Str.ofString "held") = some (.ref he) ∧ m (PySem.Str.ofString "book") = some (.ref bk) ∧ ∃ x y tx ty k otq opq ohe obk oN ps vN kh kb tl,
      nw = led w L src sl pa pd ta td tq pq he bk fa fd cla ss css sn cln t1 t2 t3 t4 t5 t6 t7 t8 r1 r2 r3 f1 f2 f3 f4 f5 f6 v1 v3 v6 v7 v8 y2 y3 z1 z2 z3 z4 z6 oS oL oP x y tx ty k otq opq ohe obk oN ps ++ tl ∧
      oN.data = .cell vN ∧ otq.IsDictOf (PySem.intKind prog w) kh ∧ ohe.IsDictOf (PySem.intKind prog w) kh ∧ opq.IsDictOf (PySem.intKind prog w) kb ∧ obk.IsDictOf (PySem.intKind prog w) kb ∧
      (∀ q ∈ kh, 0 ≤ q.1 ∧ q.1 < 3) ∧ (∀ q ∈ kb, 0 ≤ q.1 ∧ q.1 < (sls.length : Int)) ∧ 0 ≤ x ∧ 0 ≤ y ∧ y < 2147483647 ∧ (∀ q ∈ ccs, q ∈ tl) ∧ (∀ q ∈ tl, @LT.lt Nat _ bk q.1) ∧ CodeSt ps tl
def forBody : List Stmt := match lawBody.drop 6 with
  | .For _ _ b _ _ :: _ => b
  | _ => []
def turnEnd : List Stmt := forBody.drop 2
def scanBody : List Stmt := match forBody.drop 1 with
  | .If _ _ [.If _ _ o _] _ :: _ => o
  | _ => []
section
local macro_rules | `(tactic| walk_at "eval ListComp") => `(tactic| (k_here; refine stop ?_))
local macro_rules | `(tactic| walk_at "CompSrc") => `(tactic| (k_here; refine stop ?_))
local macro_rules | `(tactic| k_mem) => `(tactic| with_reducible assumption)
theorem law_done {prog : Program} {w : World} {h₀ : Heap} {L fa0 : Addr} {s : Shared} {Q : Flow → Shared → Prop} {RE : Value → Shared → Prop} {p : Program} {loose : List Str} {mean : ExcName → Option Value} {mg mb : Str → Option Value}
    {src sl pa pd ta td tq pq he bk fa fd cla : Addr} {x y : Int} {tx ty : Tok} {k sn cln : Nat} {ss css : List Value} {sls : List Int} {otq opq ohe obk oS oL oP oN : Obj} {vN : Option Value} {kh kb : Bk} {ccs tl : List (Addr × Obj)} {ps : Array Value} {m₁ : Str → Option Value}
    {t1 t2 t3 t4 t5 t6 t7 t8 r1 r2 r3 f1 f2 f3 f4 f5 f6 : Tok} {v1 v3 v6 v7 v8 y2 y3 z1 z2 z3 z4 z6 : Value}
    (B : Below callerA h₀ [] h₀) (F2 : Fr h₀ L s.heap m₁) (hm1 : m₁ (PySem.Str.ofString "held") = some (.ref he)) (hm2 : m₁ (PySem.Str.ofString "book") = some (.ref bk)) (X : (hd.heap_39 w.params).In h₀) (T : Top p loose mean mg mb h₀) (CH : CodeHd h₀ 291 289)
    (N2 : News h₀ L s.heap (led w L src sl pa pd ta td tq pq he bk fa fd cla ss css sn cln t1 t2 t3 t4 t5 t6 t7 t8 r1 r2 r3 f1 f2 f3 f4 f5 f6 v1 v3 v6 v7 v8 y2 y3 z1 z2 z3 z4 z6 oS oL oP x y tx ty k otq opq ohe obk oN ps ++ tl))
    (l1 : @LT.lt Nat _ 289 L) (l2 : @LT.lt Nat _ (L + 1 + 1 + 1 + 1) src) (l3 : @LT.lt Nat _ src pd) (l4 : @LT.lt Nat _ sl pd) (m1 : @Ne Addr sl src) (m2 : @Ne Addr sl (L + 1 + 1 + 1 + 1)) (m3 : @Ne Addr sl 289) (l5 : @LT.lt Nat _ pd pa) (l6 : @LT.lt Nat _ pa td) (l7 : @LT.lt Nat _ td ta) (l8 : @LT.lt Nat _ ta tq) (l9 : @LT.lt Nat _ tq pq) (l10 : @LT.lt Nat _ pq he) (l11 : @LT.lt Nat _ he bk) (l12 : @LT.lt Nat _ bk fd) (l13 : @LT.lt Nat _ fd fa) (n1 : @Ne Addr fa cla) (n2 : @Ne Addr fd cla) (n3 : @Ne Addr cla bk) (n4 : @Ne Addr cla he) (n5 : @Ne Addr cla pq) (n6 : @Ne Addr cla tq) (n7 : @Ne Addr cla src) (n8 : @Ne Addr cla (L + 1 + 1 + 1 + 1)) (n9 : @Ne Addr cla 289)
    (hcs : ∀ q ∈ ccs, @LT.lt Nat _ bk q.1)
    (dS : oS.data = .cell (some (.ref src))) (dL : oL.data = .cell (some (.ref sl))) (dP : oP.data = .cell (some (.ref pa))) (dN : oN.data = .cell vN)
    (hss : IntsAre ss sls) (hsn : 0 < sls.length ∧ sls.length ≤ 4) (hsl : ∀ c ∈ sls, 0 ≤ c ∧ c < 3) (hcc : CompsAt w ccs css sls)
    (h1 : otq.IsDictOf (PySem.intKind prog w) kh) (h2 : ohe.IsDictOf (PySem.intKind prog w) kh) (h3 : opq.IsDictOf (PySem.intKind prog w) kb) (h4 : obk.IsDictOf (PySem.intKind prog w) kb)
    (hkh : ∀ q ∈ kh, 0 ≤ q.1 ∧ q.1 < 3) (hkb : ∀ q ∈ kb, 0 ≤ q.1 ∧ q.1 < (sls.length : Int)) (hsub : ∀ q ∈ ccs, q ∈ tl) (htl : ∀ q ∈ tl, @LT.lt Nat _ bk q.1) (hcode : CodeSt ps tl) (hx : 0 ≤ x) (hy0 : 0 ≤ y) (hy1 : y < 2147483647)
    (lo1 : (tq == sysModules) = false) (lo2 : (he == sysModules) = false) (lo3 : (pq == sysModules) = false) (lo4 : (bk == sysModules) = false)
    (hret : ∀ h' tk' m' nw ps, Fr h₀ L h' m' → News h₀ L h' nw → (289, tabObj ps) ∈ nw → Q (.ret (.bool true)) { s with heap := h', toks := tk' }) :
    wpAny (model prog w) (callerA.deeper (lawEnv L fa0)) (execs (lawBody.drop 7) (lawEnv L fa0)) Q (fun e s' => wpAny (model prog w) (callerA.deeper (lawEnv L fa0)) (leaving (lawEnv L fa0) e) (fun _ s'' => RE e s'') (fun e' s'' => RE e' s'') s') s := by
  conv in (execs _ _) => arg 1; whnf
  simp only [led, List.cons_append, List.nil_append] at N2
  rw [kmap_of hm1 hm2] at F2
  have hk4 : kh.length ≤ 4 := short4 (nodup_of h1) hkh (by omega)
  have hb4 : kb.length ≤ 4 := short4 (nodup_of h3) hkb (by omega)
  k_steps
  (rename IsRange _ _ _ _ _ _ _ _ => rgX)
  k_dflt (refine' list_len (n := sls.length) ?k0 ?k1 ?k2 ?k3 ?k4 ?_; (case k0 => exact rfl); (case k1 => k_asm); (case k2 => k_asm); (case k3 => exact rgX); (case k4 => omega))
  intro D us c9 h' tk F' N' lD hiD hnD hpD
  have d1 : @Ne Addr D pq := Nat.ne_of_gt (lD (pq, _) (by k_mem))
  have d2 : @Ne Addr D bk := Nat.ne_of_gt (lD (bk, _) (by k_mem))
  have d3 : @Ne Addr D (L + 1 + 1 + 1 + 1) := Nat.ne_of_gt (lD (L + 1 + 1 + 1 + 1, _) (by k_mem))
  have d4 : @Ne Addr D 289 := Nat.ne_of_gt (lD (289, _) (by k_mem))
  k_steps
  unfold Stop
  k_dflt (refine' kla_eval ?d0 ?_; (case d0 => exact rfl))
  k_dflt (refine' lamSpec2 (l₁ := 160) (c₁ := 26) ?F ?N ?T ?C ?cd ?U ?hc ?hno ?cl ?_; (case F => k_asm); (case N => k_asm); (case T => k_asm); (case C => kn_code); (case cd => exact rfl); (case U => k_updF); (case hc => exact hcode.elim .inl fun ⟨c', _, _, _, _, _, _, e⟩ => .inr ⟨c', e⟩); (case hno => exact fun c' => rfl); (case cl => exact rfl))
  intro f c' oc vs t ctv h' tk ps' F' N' e1 e2 hlc hlf
  (try dsimp only at N')
  have hbf : @LT.lt Nat _ bk f := hlf (bk, _) (by k_mem)
  have hbc : @LT.lt Nat _ bk c' := hlc (bk, _) (by k_mem)
  k_steps
  obtain ⟨cn1, cn2, cn3, cn4, cn5, cn6, cn7⟩ := chain_ne7 l5 l6 l7 l8 l9 l10 l11 l12 l13
  have cn8 : @Ne Addr cla pq := n5
  rename Obj.IsDictOf _ _ (Prod.snd _) => hdK
  unfold Stop
  k_dflt (refine' asked_specD (d := pq) ?hK ?B ?F ?X ?N ?T ?XB ?TB ?hk ?hf ?U ?hdp ?hu ?_ ?_; (case hK => exact hdK); (case B => exact B); (case F => k_asm); (case X => k_asm); (case N => k_asm); (case T => k_asm); (case XB => exact X); (case TB => exact T); (case hk => exact rfl); (case hf => k_mem); (case U => k_updF); (case hdp => decide); (case hu => decide))
  · intro g' L' h₁ tk m' cn' cs' a' ccd' Q' E' hk' F1 F2 N2 B2 X2 T2 rr re
    k_dflt (refine wpAny_call ?_; (refine' kla_code ?k1 ?k2 ?k3 ?k4 ?k5 ?kA ?kF ?kK ?k6 ?k7 ?k8 ?k9 ?kB ?_ ?c2 ?c3 ?c4 ?c5; (case kA => exact rfl); (case kF => exact rfl); (case kK => exact hk'); (case k1 => exact B2); (case k2 => exact F2); (case k3 => exact X2); (case k4 => exact N2); (case k5 => exact T2); (case k6 => k_mem); (case k7 => exact codeRec_news N2 (by k_mem) e1 e2); (case k8 => ktr_room); (case k9 => exact rfl); (case c5 => decide); (case kB => exact locs rfl); (case c2 => exact rfl); (case c3 => exact rfl); (case c4 => exact rfl); k_whole))
    intro g3 L3 h3 FG3 F3 N3 B3 X3 T3
    (try dsimp only)
    (try k_fold)
    k_steps
    unfold Stop
    have lx : @LT.lt Nat _ pq f := Nat.lt_trans (Nat.lt_trans l10 l11) hbf
    k_dflt (refine' keepall_spec ?B ?F ?X ?N ?T ?hk ?U ?hob ?hpa ?hpd ?hta ?htd ?htq ?hoq ?hfa ?hfd ?hcl ?hcc ?hci ?hco ?lob ?loq cn1 cn2 cn3 cn4 cn5 cn6 cn7 cn8 ?hsl0 ?hlen ?hsl ?hdp ?hu ?ret ?hE; (case B => exact B3); (case F => k_asm); (case X => exact X3); (case N => k_asm); (case T => exact T3); (case hk => exact rfl); (case U => k_updF); (case hob => k_asm); (case hpa => k_mem); (case hpd => k_mem); (case hta => k_mem); (case htd => k_mem); (case htq => k_mem); (case hoq => k_asm); (case hfa => k_mem); (case hfd => k_mem); (case hcl => k_mem); (case hcc => assumption); (case hci => (intro q hq; (have hq2 := hsub q hq); (repeat (first | exact hq2 | refine List.mem_cons_of_mem _ ?_)))); (case hco => exact fun q hq => Nat.ne_of_gt (Nat.lt_trans (Nat.lt_trans l10 l11) (hcs q hq))); (case lob => assumption); (case loq => assumption); (case hsl0 => assumption); (case hlen => omega); (case hsl => omega); (case hdp => ktr_room); (case hu => ktr_units))
    case ret =>
      intro hK o' h' tk' Fz Nz dz
      k_steps
      exact rr hK _ _ _ _ (by assumption) (by assumption) (by assumption)
    case hE =>
      intro hK o' g₂ e h' tk' Fz Rz Uz dz
      show wpAny _ _ (leaving _ _) _ _ _
      refine leave2 B3 Fz rfl Rz Uz ?_
      intro h9 R9 U9
      exact re hK _ _ _ _ _ FG3 R9 U9 dz
  · intro o' h' tk' F' N' hd'
    (try dsimp only at N')
    k_steps
    · exact bne_no (b := (kall sls kh (rangeKs 0 sls.length) kb).1) (by assumption)
    unfold Stop
    k_dflt (refine LCg.ListComp_U (F₀ := by k_asm) (by with_unfolding_all rfl) (by decide) (by rfl) (by decide) (by rfl) ?_)
    k_steps
    unfold Stop
    refine LCg.CompSrc.ledger (its := css.toArray) (k := cln) rfl (by assumption) (by assumption) (by k_mem) (by rw [List.size_toArray, hcc.1, sizeLine_eq]; omega) ?_
    intro g9
    refine crestQ (ccs := ccs) (by rw [List.size_toArray]; exact hcc.1) hcc ?_ ?_ (fun i v h => by simpa using h) ?_ ?_
    · intro q hq
      have hq2 := hsub q hq
      repeat (first | exact hq2 | refine List.mem_cons_of_mem _ ?_)
    · exact .inr ⟨_, (by k_mem), rfl, _, rfl⟩
    · intro i a d t1 t2 t3 t4 v1 v2 v3 u I oI C oC D m₂ ys h tk E' R hma hmd hC hx F N ret
      (try dsimp only at N)
      k_steps
      exact ret _ _ (by assumption) (by assumption)
    · intro ys hys
      intro D h tk F2 N2 offD
      (try dsimp only at N2 offD)
      k_steps
      · have hkk : ∀ q ∈ (kall sls kh (rangeKs 0 sls.length) kb).2, 0 ≤ q.1 ∧ q.1 < (sls.length : Int) := kall_keys hkb fun x hx => rk_mem.mp hx
        have hK4 : (kall sls kh (rangeKs 0 sls.length) kb).2.length ≤ 4 := short4 (nodup_of hd') hkk (by omega)
        k_steps
        (rename IsRange _ _ _ _ _ _ _ _ => rgX)
        k_dflt (refine' list_len (n := sls.length) ?k0 ?k1 ?k2 ?k3 ?k4 ?_; (case k0 => exact rfl); (case k1 => k_asm); (case k2 => k_asm); (case k3 => exact rgX); (case k4 => omega))
        intro D2 us2 c92 h' tk F' N' lD2 hiD2 hnD2 hpD2
        k_steps
        have eK := keys_all (by assumption) hkb (nodup_of hd') (by assumption) (by assumption) hkk
        rw [show decide (_ = _) = true from decide_eq_true eK]
        exact hret _ _ _ _ ps' (by assumption) (by assumption) (by k_mem)
      · rename (kall _ _ _ _).1 = false => hz
        rw [hz]
        exact hret _ _ _ _ ps' (by assumption) (by assumption) (by k_mem)
end
set_option maxHeartbeats 3000000 in
theorem law_turn {prog : Program} {w : World} {h₀ : Heap} {L fa0 : Addr} {s : Shared} {R : Flow → Shared → Prop} {I : Addr} {oI : Obj} {RE : Value → Shared → Prop} {p : Program} {loose : List Str} {mean : ExcName → Option Value} {mg mb : Str → Option Value}
    {src sl pa pd ta td tq pq he bk fa fd cla : Addr} {x y : Int} {tx ty : Tok} {k sn cln : Nat} {ss css : List Value} {sls : List Int} {otq opq ohe obk oS oL oP oN : Obj} {vN : Option Value} {kh kb : Bk} {ccs tl : List (Addr × Obj)} {ps : Array Value} {m₁ : Str → Option Value}
    {t1 t2 t3 t4 t5 t6 t7 t8 r1 r2 r3 f1 f2 f3 f4 f5 f6 : Tok} {v1 v3 v6 v7 v8 y2 y3 z1 z2 z3 z4 z6 : Value}
    (B : Below callerA h₀ [] h₀) (F2 : Fr h₀ L s.heap m₁) (hm1 : m₁ (PySem.Str.ofString "held") = some (.ref he)) (hm2 : m₁ (PySem.Str.ofString "book") = some (.ref bk)) (X : (hd.heap_39 w.params).In h₀) (T : Top p loose mean mg mb h₀) (CH : CodeHd h₀ 291 289)
    (N2 : News h₀ L s.heap ((I, oI) :: (led w L src sl pa pd ta td tq pq he bk fa fd cla ss css sn cln t1 t2 t3 t4 t5 t6 t7 t8 r1 r2 r3 f1 f2 f3 f4 f5 f6 v1 v3 v6 v7 v8 y2 y3 z1 z2 z3 z4 z6 oS oL oP x y tx ty k otq opq ohe obk oN ps ++ tl)))
    (l1 : @LT.lt Nat _ 289 L) (l2 : @LT.lt Nat _ (L + 1 + 1 + 1 + 1) src) (l3 : @LT.lt Nat _ src pd) (l4 : @LT.lt Nat _ sl pd) (m1 : @Ne Addr sl src) (m2 : @Ne Addr sl (L + 1 + 1 + 1 + 1)) (m3 : @Ne Addr sl 289) (l5 : @LT.lt Nat _ pd pa) (l6 : @LT.lt Nat _ pa td) (l7 : @LT.lt Nat _ td ta) (l8 : @LT.lt Nat _ ta tq) (l9 : @LT.lt Nat _ tq pq) (l10 : @LT.lt Nat _ pq he) (l11 : @LT.lt Nat _ he bk) (l12 : @LT.lt Nat _ bk fd) (l13 : @LT.lt Nat _ fd fa) (n1 : @Ne Addr fa cla) (n2 : @Ne Addr fd cla) (n3 : @Ne Addr cla bk) (n4 : @Ne Addr cla he) (n5 : @Ne Addr cla pq) (n6 : @Ne Addr cla tq) (n7 : @Ne Addr cla src) (n8 : @Ne Addr cla (L + 1 + 1 + 1 + 1)) (n9 : @Ne Addr cla 289)
    (hcs : ∀ q ∈ ccs, @LT.lt Nat _ bk q.1)
    (dS : oS.data = .cell (some (.ref src))) (dL : oL.data = .cell (some (.ref sl))) (dP : oP.data = .cell (some (.ref pa))) (dN : oN.data = .cell vN)
    (hss : IntsAre ss sls) (hsn : 0 < sls.length ∧ sls.length ≤ 4) (hsl : ∀ c ∈ sls, 0 ≤ c ∧ c < 3) (hcc : CompsAt w ccs css sls)
    (h1 : otq.IsDictOf (PySem.intKind prog w) kh) (h2 : ohe.IsDictOf (PySem.intKind prog w) kh) (h3 : opq.IsDictOf (PySem.intKind prog w) kb) (h4 : obk.IsDictOf (PySem.intKind prog w) kb)
    (hkh : ∀ q ∈ kh, 0 ≤ q.1 ∧ q.1 < 3) (hkb : ∀ q ∈ kb, 0 ≤ q.1 ∧ q.1 < (sls.length : Int)) (hsub : ∀ q ∈ ccs, q ∈ tl) (htl : ∀ q ∈ tl, @LT.lt Nat _ bk q.1) (hcode : CodeSt ps tl) (hx : 0 ≤ x) (hy0 : 0 ≤ y) (hy1 : y < 2147483647)
    (lo1 : (tq == sysModules) = false) (lo2 : (he == sysModules) = false) (lo3 : (pq == sysModules) = false) (lo4 : (bk == sysModules) = false)
    (off : LCg.Off1 I (led w L src sl pa pd ta td tq pq he bk fa fd cla ss css sn cln t1 t2 t3 t4 t5 t6 t7 t8 r1 r2 r3 f1 f2 f3 f4 f5 f6 v1 v3 v6 v7 v8 y2 y3 z1 z2 z3 z4 z6 oS oL oP x y tx ty k otq opq ohe obk oN ps ++ tl)) (fin : ∀ m' nw' h' tk', Fr h₀ L h' m' → News h₀ L h' ((I, oI) :: nw') → LCg.Off1 I nw' → Jt prog w L src sl pa pd ta td tq pq he bk fa fd cla ss css sn cln t1 t2 t3 t4 t5 t6 t7 t8 r1 r2 r3 f1 f2 f3 f4 f5 f6 v1 v3 v6 v7 v8 y2 y3 z1 z2 z3 z4 z6 oS oL oP sls ccs m' nw' → R .next { s with heap := h', toks := tk' }) :
    wpAny (model prog w) (callerA.deeper (lawEnv L fa0)) (execs turnEnd (lawEnv L fa0)) R (fun e s' => wpAny (model prog w) (callerA.deeper (lawEnv L fa0)) (leaving (lawEnv L fa0) e) (fun _ s'' => RE e s'') (fun e' s'' => RE e' s'') s') s := by
  conv in (execs _ _) => arg 1; whnf
  simp only [led, List.cons_append, List.nil_append] at N2
  rw [kmap_of hm1 hm2] at F2
  have l3z : @LT.lt Addr instLTNat src pd := l3
  have l0z : @LT.lt Addr instLTNat 289 (L + 1 + 1 + 1 + 1) := Nat.lt_trans l1 (Nat.lt_add_of_pos_right (n := L) (k := 4) (by decide))
  have laz : @LT.lt Addr instLTNat (L + 1) src := Nat.lt_trans (Nat.add_lt_add_left (n := 1) (m := 4) (by decide) L) l2
  have lbz : @LT.lt Addr instLTNat (L + 1 + 1) src := Nat.lt_trans (Nat.add_lt_add_left (n := 2) (m := 4) (by decide) L) l2
  have lcz : @LT.lt Addr instLTNat (L + 1 + 1 + 1) src := Nat.lt_trans (Nat.add_lt_add_left (n := 3) (m := 4) (by decide) L) l2
  have ldz : @LT.lt Addr instLTNat (L + 1 + 1 + 1 + 1) src := l2
  have hk4 : kh.length ≤ 4 := short4 (nodup_of h1) hkh (by omega)
  have hb4 : kb.length ≤ 4 := short4 (nodup_of h3) hkb (by omega)
  k_steps
  refine' fin _ (led w L src sl pa pd ta td tq pq he bk fa fd cla ss css sn cln t1 t2 t3 t4 t5 t6 t7 t8 r1 r2 r3 f1 f2 f3 f4 f5 f6 v1 v3 v6 v7 v8 y2 y3 z1 z2 z3 z4 z6 oS oL oP _ _ _ _ _ _ _ _ _ _ _ ++ tl) _ _ ?F (news_sub ?N ?sub) ?off ⟨?m1, ?m2, _, _, _, _, _, _, _, _, _, _, _, _, _, _, _, rfl, ?dN, ?k1, ?k2, ?k3, ?k4, hkh, hkb, hx, hy0, hy1, hsub, htl, hcode⟩
  case F => assumption
  case N => assumption
  case m1 => rfl
  case m2 => rfl
  case sub =>
    intro p hp
    simp only [led, List.cons_append, List.nil_append] at hp
    iterate 19 (rcases List.mem_cons.mp hp with rfl | hp; · k_mem)
    (repeat (first | exact hp | refine List.mem_cons_of_mem _ ?_))
  case dN => assumption
  case k1 => assumption
  case k2 => assumption
  case k3 => assumption
  case k4 => assumption
  case off => exact off
set_option maxHeartbeats 8000000 in
theorem law_scan {prog : Program} {w : World} {h₀ : Heap} {L fa0 : Addr} {s : Shared} {R Q : Flow → Shared → Prop} {I : Addr} {oI : Obj} {RE : Value → Shared → Prop} {p : Program} {loose : List Str} {mean : ExcName → Option Value} {mg mb : Str → Option Value}
    {src sl pa pd ta td tq pq he bk fa fd cla : Addr} {x y : Int} {tx ty : Tok} {k sn cln : Nat} {ss css : List Value} {sls : List Int} {otq opq ohe obk oS oL oP oN : Obj} {vN : Option Value} {kh kb : Bk} {ccs tl : List (Addr × Obj)} {ps : Array Value} {m₁ : Str → Option Value}
    {t1 t2 t3 t4 t5 t6 t7 t8 r1 r2 r3 f1 f2 f3 f4 f5 f6 : Tok} {v1 v3 v6 v7 v8 y2 y3 z1 z2 z3 z4 z6 : Value}
    (B : Below callerA h₀ [] h₀) (F2 : Fr h₀ L s.heap m₁) (hm1 : m₁ (PySem.Str.ofString "held") = some (.ref he)) (hm2 : m₁ (PySem.Str.ofString "book") = some (.ref bk)) (X : (hd.heap_39 w.params).In h₀) (T : Top p loose mean mg mb h₀) (CH : CodeHd h₀ 291 289)
    (N2 : News h₀ L s.heap ((I, oI) :: (led w L src sl pa pd ta td tq pq he bk fa fd cla ss css sn cln t1 t2 t3 t4 t5 t6 t7 t8 r1 r2 r3 f1 f2 f3 f4 f5 f6 v1 v3 v6 v7 v8 y2 y3 z1 z2 z3 z4 z6 oS oL oP x y tx ty k otq opq ohe obk oN ps ++ tl)))
    (l1 : @LT.lt Nat _ 289 L) (l2 : @LT.lt Nat _ (L + 1 + 1 + 1 + 1) src) (l3 : @LT.lt Nat _ src pd) (l4 : @LT.lt Nat _ sl pd) (m1 : @Ne Addr sl src) (m2 : @Ne Addr sl (L + 1 + 1 + 1 + 1)) (m3 : @Ne Addr sl 289) (l5 : @LT.lt Nat _ pd pa) (l6 : @LT.lt Nat _ pa td) (l7 : @LT.lt Nat _ td ta) (l8 : @LT.lt Nat _ ta tq) (l9 : @LT.lt Nat _ tq pq) (l10 : @LT.lt Nat _ pq he) (l11 : @LT.lt Nat _ he bk) (l12 : @LT.lt Nat _ bk fd) (l13 : @LT.lt Nat _ fd fa) (n1 : @Ne Addr fa cla) (n2 : @Ne Addr fd cla) (n3 : @Ne Addr cla bk) (n4 : @Ne Addr cla he) (n5 : @Ne Addr cla pq) (n6 : @Ne Addr cla tq) (n7 : @Ne Addr cla src) (n8 : @Ne Addr cla (L + 1 + 1 + 1 + 1)) (n9 : @Ne Addr cla 289)
    (hcs : ∀ q ∈ ccs, @LT.lt Nat _ bk q.1)
    (dS : oS.data = .cell (some (.ref src))) (dL : oL.data = .cell (some (.ref sl))) (dP : oP.data = .cell (some (.ref pa))) (dN : oN.data = .cell vN)
    (hss : IntsAre ss sls) (hsn : 0 < sls.length ∧ sls.length ≤ 4) (hsl : ∀ c ∈ sls, 0 ≤ c ∧ c < 3) (hcc : CompsAt w ccs css sls)
    (h1 : otq.IsDictOf (PySem.intKind prog w) kh) (h2 : ohe.IsDictOf (PySem.intKind prog w) kh) (h3 : opq.IsDictOf (PySem.intKind prog w) kb) (h4 : obk.IsDictOf (PySem.intKind prog w) kb)
    (hkh : ∀ q ∈ kh, 0 ≤ q.1 ∧ q.1 < 3) (hkb : ∀ q ∈ kb, 0 ≤ q.1 ∧ q.1 < (sls.length : Int)) (hsub : ∀ q ∈ ccs, q ∈ tl) (htl : ∀ q ∈ tl, @LT.lt Nat _ bk q.1) (hcode : CodeSt ps tl) (hx : 0 ≤ x) (hy0 : 0 ≤ y) (hy1 : y < 2147483647)
    (lo1 : (tq == sysModules) = false) (lo2 : (he == sysModules) = false) (lo3 : (pq == sysModules) = false) (lo4 : (bk == sysModules) = false)
    (hI1 : @LT.lt Nat _ fa I) (hI2 : @LT.lt Nat _ cla I) (hnext : ∀ s', wpAny (model prog w) (callerA.deeper (lawEnv L fa0)) (execs turnEnd (lawEnv L fa0)) R (fun e s' => wpAny (model prog w) (callerA.deeper (lawEnv L fa0)) (leaving (lawEnv L fa0) e) (fun _ s'' => RE e s'') (fun e' s'' => RE e' s'') s') s' → Q .next s')
    (off : LCg.Off1 I (led w L src sl pa pd ta td tq pq he bk fa fd cla ss css sn cln t1 t2 t3 t4 t5 t6 t7 t8 r1 r2 r3 f1 f2 f3 f4 f5 f6 v1 v3 v6 v7 v8 y2 y3 z1 z2 z3 z4 z6 oS oL oP x y tx ty k otq opq ohe obk oN ps ++ tl)) (fin : ∀ m' nw' h' tk', Fr h₀ L h' m' → News h₀ L h' ((I, oI) :: nw') → LCg.Off1 I nw' → Jt prog w L src sl pa pd ta td tq pq he bk fa fd cla ss css sn cln t1 t2 t3 t4 t5 t6 t7 t8 r1 r2 r3 f1 f2 f3 f4 f5 f6 v1 v3 v6 v7 v8 y2 y3 z1 z2 z3 z4 z6 oS oL oP sls ccs m' nw' → R .next { s with heap := h', toks := tk' }) :
    wpAny (model prog w) (callerA.deeper (lawEnv L fa0)) (execs scanBody (lawEnv L fa0)) Q (fun e s' => wpAny (model prog w) (callerA.deeper (lawEnv L fa0)) (leaving (lawEnv L fa0) e) (fun _ s'' => RE e s'') (fun e' s'' => RE e' s'') s') s := by
  conv in (execs _ _) => arg 1; whnf
  simp only [led, List.cons_append, List.nil_append] at N2
  rw [kmap_of hm1 hm2] at F2
  have l3z : @LT.lt Addr instLTNat src pd := l3
  have l0z : @LT.lt Addr instLTNat 289 (L + 1 + 1 + 1 + 1) := Nat.lt_trans l1 (Nat.lt_add_of_pos_right (n := L) (k := 4) (by decide))
  have laz : @LT.lt Addr instLTNat (L + 1) src := Nat.lt_trans (Nat.add_lt_add_left (n := 1) (m := 4) (by decide) L) l2
  have lbz : @LT.lt Addr instLTNat (L + 1 + 1) src := Nat.lt_trans (Nat.add_lt_add_left (n := 2) (m := 4) (by decide) L) l2
  have lcz : @LT.lt Addr instLTNat (L + 1 + 1 + 1) src := Nat.lt_trans (Nat.add_lt_add_left (n := 3) (m := 4) (by decide) L) l2
  have ldz : @LT.lt Addr instLTNat (L + 1 + 1 + 1 + 1) src := l2
  have hk4 : kh.length ≤ 4 := short4 (nodup_of h1) hkh (by omega)
  have hb4 : kb.length ≤ 4 := short4 (nodup_of h3) hkb (by omega)
  k_steps
  unfold Stop
  refine LCt.CompSrcT.range rfl (by assumption) (by assumption) (by assumption) (small_one (by omega) (by omega) (by omega) (by omega)) (rangeSize_nat _ _) (by rw [sizeLine_eq]; omega) ?_
  intro g2
  k_dflt (refine' crestTU (src := src) ?U ?a ?b ?c (fun _ => trivial) (fun _ _ h => h) ?_ ?_; (case U => k_updF); (case a => assumption); (case b => assumption); (case c => assumption))
  · intro i t I oI C oC D m₂ ys a tA b tB k h tk E' Rb hi ha hb hb2 hC hx F2 N2 nI nC nD ret
    (try dsimp only at N2)
    k_steps
    (rename News _ _ _ _ => N9)
    refine ret _ _ _ _ _ _ _ _ (by assumption) (by assumption) (by assumption) (by assumption) N9 ?_
    intro _ R hR
    k_steps
    exact hR _ _ (by assumption) (by assumption)
  · intro ys ns a tA b tB k hys hln hns ha hb hb2
    intro D h tk F2 N2 offD
    (try dsimp only at N2 offD)
    have d1 : @Ne Addr D pq := off1_ne offD (by k_mem)
    have d2 : @Ne Addr D bk := off1_ne offD (by k_mem)
    have d3 : @Ne Addr D (L + 1 + 1 + 1 + 1) := off1_ne offD (by k_mem)
    have d4 : @Ne Addr D 289 := off1_ne offD (by k_mem)
    k_steps
    rename ∀ (q : Addr × Obj), q ∈ _ → @LT.lt Nat _ bk q.1 => htl
    unfold Stop
    k_dflt (refine' kla_eval ?d0 ?_; (case d0 => exact rfl))
    k_dflt (refine' lamSpec ?F ?N ?T ?C ?cd ?U ?hs ?hc ?cl ?_; (case F => k_asm); (case N => k_asm); (case T => k_asm); (case C => kn_code); (case cd => exact rfl); (case U => k_updF); (case hc => exact (show CodeSt _ _ from by assumption)); (case hs => (intro q hq; (repeat (first | exact hq | refine List.mem_cons_of_mem _ ?_)))); (case cl => exact rfl))
    intro f c' oc vs t ctv h' tk F' N' d1 d2 hor hlt
    (try dsimp only at N')
    have hbf : @LT.lt Nat _ bk f := hlt (bk, _) (by k_mem)
    have hbc : @LT.lt Nat _ bk c' := hor.elim (fun z => z (bk, _) (by k_mem)) (fun z => htl _ z)
    k_steps
    obtain ⟨cn1, cn2, cn3, cn4, cn5, cn6, cn7⟩ := chain_ne7 l5 l6 l7 l8 l9 l10 l11 l12 l13
    have cn8 : @Ne Addr cla pq := n5
    rename Obj.IsDictOf _ _ (Prod.snd _) => hdK
    unfold Stop
    k_dflt (refine' asked_specD (d := pq) ?hK ?B ?F ?X ?N ?T ?XB ?TB ?hk ?hf ?U ?hdp ?hu ?_ ?_; (case hK => exact hdK); (case B => exact B); (case F => k_asm); (case X => k_asm); (case N => k_asm); (case T => k_asm); (case XB => exact X); (case TB => exact T); (case hk => exact rfl); (case hf => k_mem); (case U => k_updF); (case hdp => decide); (case hu => decide))
    · intro g' L' h₁ tk m' cn' cs' a' ccd' Q' E' hk' F1 F2 N2 B2 X2 T2 rr re
      k_dflt (refine wpAny_call ?_; (refine' kla_code ?k1 ?k2 ?k3 ?k4 ?k5 ?kA ?kF ?kK ?k6 ?k7 ?k8 ?k9 ?kB ?_ ?c2 ?c3 ?c4 ?c5; (case kA => exact rfl); (case kF => exact rfl); (case kK => exact hk'); (case k1 => exact B2); (case k2 => exact F2); (case k3 => exact X2); (case k4 => exact N2); (case k5 => exact T2); (case k6 => k_mem); (case k7 => exact codeRec_news N2 (by k_mem) d1 d2); (case k8 => ktr_room); (case k9 => exact rfl); (case c5 => decide); (case kB => exact locs rfl); (case c2 => exact rfl); (case c3 => exact rfl); (case c4 => exact rfl); k_whole))
      intro g3 L3 h3 FG3 F3 N3 B3 X3 T3
      (try dsimp only)
      (try k_fold)
      k_steps
      unfold Stop
      have lx : @LT.lt Nat _ pq f := Nat.lt_trans (Nat.lt_trans l10 l11) hbf
      k_dflt (refine' keepdiv_spec ?B ?F ?X ?N ?T ?hk ?U ?hob ?hpa ?hpd ?hsa ?hsd ?hp ?hps ?hta ?htd ?htq ?hoq ?hfa ?hfd ?hcl ?hcc ?hci ?hco ?lob ?loq cn1 cn2 ?n3 ?n4 ?n5 cn3 cn4 cn5 cn6 cn7 cn8 ?hpos ?hsl0 ?hlen ?hsl ?hdp ?hu ?ret ?hE; (case B => exact B3); (case F => k_asm); (case X => exact X3); (case N => k_asm); (case T => exact T3); (case hk => exact rfl); (case U => k_updF); (case hob => k_asm); (case hpa => k_mem); (case hpd => k_mem); (case hsa => k_mem); (case hsd => k_mem); (case hp => k_mem); (case hps => assumption); (case hta => k_mem); (case htd => k_mem); (case htq => k_mem); (case hoq => k_asm); (case hfa => k_mem); (case hfd => k_mem); (case hcl => k_mem); (case hcc => assumption); (case hci => (intro q hq; (have hq2 := hsub q hq); (repeat (first | exact hq2 | refine List.mem_cons_of_mem _ ?_)))); (case hco => exact fun q hq => Nat.ne_of_gt (Nat.lt_trans (Nat.lt_trans l10 l11) (hcs q hq))); (case lob => assumption); (case loq => assumption); (case n5 => assumption); (case hpos => exact pos_of (by assumption)); (case hsl0 => assumption); (case hlen => omega); (case hsl => omega); (case hdp => ktr_room); (case hu => ktr_units))
      case n3 => exact Nat.ne_of_gt (by omega)
      case n4 => exact Nat.ne_of_gt (by omega)
      case ret =>
        intro hK o' h' tk' Fz Nz dz
        k_steps
        exact rr hK _ _ _ _ (by assumption) (by assumption) (by assumption)
      case hE =>
        intro hK o' g₂ e h' tk' Fz Rz Uz dz
        show wpAny _ _ (leaving _ _) _ _ _
        refine leave2 B3 Fz rfl Rz Uz ?_
        intro h9 R9 U9
        exact re hK _ _ _ _ _ FG3 R9 U9 dz
    · intro o' h' tk' F' N' hd'
      (try dsimp only at N')
      k_steps
      · exact bne_no (b := (kall sls kh ns kb).1) (by assumption)
      refine hnext _ ?_
      refine' law_turn (I := I) (oI := oI) (tl := (c', oc) :: tl) B ?F ?m1 ?m2 X T CH (news_sub ?N ?sub) l1 l2 l3 l4 m1 m2 m3 l5 l6 l7 l8 l9 l10 l11 l12 l13 n1 n2 n3 n4 n5 n6 n7 n8 n9 hcs dS dL dP ?dN (by assumption) hsn hsl hcc ?k1 ?k2 ?k3 ?k4 hkh ?kk2 ?ks ?kt ?kc ?kx ?ky ?ky1 lo1 lo2 lo3 lo4 ?off fin
      case F => assumption
      case N => assumption
      case m1 => rfl
      case m2 => rfl
      case sub =>
        intro p hp
        simp only [led, List.cons_append, List.nil_append] at hp
        iterate 19 (rcases List.mem_cons.mp hp with rfl | hp; · k_mem)
        rcases List.mem_cons.mp hp with rfl | hp
        · k_mem
        (repeat (first | exact hp | refine List.mem_cons_of_mem _ ?_))
      case dN => assumption
      case k1 => assumption
      case k2 => assumption
      case k3 => assumption
      case k4 => assumption
      case kx => assumption
      case ky => assumption
      case ky1 => assumption
      case kk2 => exact kall_keys hkb (pos_of (by assumption))
      case ks => exact fun q hq => List.mem_cons_of_mem _ (hsub q hq)
      case kt =>
        intro q hq
        rcases List.mem_cons.mp hq with rfl | hq
        · exact hbc
        · exact htl q hq
      case kc => exact .inr ⟨c', oc, vs, t, List.mem_cons_self .., d1, d2, rfl⟩
      case off =>
        have hcI : @Ne Nat c' I := hor.elim (fun z => Nat.ne_of_gt (z (I, oI) (by k_mem))) (fun z => Ne.symm (off1_ne (off1_app.mp off).2 z))
        exact off1_app.mpr ⟨(off1_app.mp off).1, hcI, (off1_app.mp off).2⟩
section
local macro_rules | `(tactic| walk_at "execs cons") => `(tactic| (k_here; (with_reducible show wpAny _ _ (execs (Stmt.Assign _ (Expr.ListComp ..) _ :: _) (lawEnv _ _)) _ _ _); refine stop ?_))
local macro_rules | `(tactic| walk_at "execs cons") => `(tactic| (k_here; (with_reducible show wpAny _ _ (execs (Stmt.If (Expr.BoolOp BoolOp.Or ..) _ _ _ :: _) (lawEnv _ _)) _ _ _); refine stop ?_))
set_option maxHeartbeats 8000000 in
theorem law_tail {prog : Program} {w : World} {h₀ : Heap} {L fa0 : Addr} {u : Str → Option Value} {s : Shared} {Q : Flow → Shared → Prop} {RE : Value → Shared → Prop} {p : Program} {loose : List Str} {mean : ExcName → Option Value} {mg mb : Str → Option Value}
    {src sl pa pd ta td tq pq he bk fa fd cla : Addr} {x y : Int} {tx ty : Tok} {k sn cln : Nat} {ss css : List Value} {sls : List Int} {otq opq ohe obk oS oL oP oN : Obj} {vN : Option Value} {kh : Bk} {ccs : List (Addr × Obj)}
    {t1 t2 t3 t4 t5 t6 t7 t8 r1 r2 r3 f1 f2 f3 f4 f5 f6 : Tok} {v1 v3 v6 v7 v8 y2 y3 z1 z2 z3 z4 z6 : Value}
    (B : Below callerA h₀ [] h₀) (F : Fr h₀ L s.heap (kmap he bk u)) (X : (hd.heap_39 w.params).In h₀) (T : Top p loose mean mg mb h₀) (CH : CodeHd h₀ 291 289)
    (N : News h₀ L s.heap (led w L src sl pa pd ta td tq pq he bk fa fd cla ss css sn cln t1 t2 t3 t4 t5 t6 t7 t8 r1 r2 r3 f1 f2 f3 f4 f5 f6 v1 v3 v6 v7 v8 y2 y3 z1 z2 z3 z4 z6 oS oL oP x y tx ty k otq opq ohe obk oN #[] ++ ccs))
    (l1 : @LT.lt Nat _ 289 L) (l2 : @LT.lt Nat _ (L + 1 + 1 + 1 + 1) src) (l3 : @LT.lt Nat _ src pd) (l4 : @LT.lt Nat _ sl pd) (m1 : @Ne Addr sl src) (m2 : @Ne Addr sl (L + 1 + 1 + 1 + 1)) (m3 : @Ne Addr sl 289) (l5 : @LT.lt Nat _ pd pa) (l6 : @LT.lt Nat _ pa td) (l7 : @LT.lt Nat _ td ta) (l8 : @LT.lt Nat _ ta tq) (l9 : @LT.lt Nat _ tq pq) (l10 : @LT.lt Nat _ pq he) (l11 : @LT.lt Nat _ he bk) (l12 : @LT.lt Nat _ bk fd) (l13 : @LT.lt Nat _ fd fa) (n1 : @Ne Addr fa cla) (n2 : @Ne Addr fd cla) (n3 : @Ne Addr cla bk) (n4 : @Ne Addr cla he) (n5 : @Ne Addr cla pq) (n6 : @Ne Addr cla tq) (n7 : @Ne Addr cla src) (n8 : @Ne Addr cla (L + 1 + 1 + 1 + 1)) (n9 : @Ne Addr cla 289)
    (hcs : ∀ q ∈ ccs, @LT.lt Nat _ bk q.1)
    (dS : oS.data = .cell (some (.ref src))) (dL : oL.data = .cell (some (.ref sl))) (dP : oP.data = .cell (some (.ref pa))) (dN : oN.data = .cell vN)
    (hss : IntsAre ss sls) (hsn : 0 < sls.length ∧ sls.length ≤ 4) (hsl : ∀ c ∈ sls, 0 ≤ c ∧ c < 3) (hcc : CompsAt w ccs css sls)
    (h1 : otq.IsDictOf (PySem.intKind prog w) kh) (h2 : ohe.IsDictOf (PySem.intKind prog w) kh) (h3 : opq.IsDictOf (PySem.intKind prog w) []) (h4 : obk.IsDictOf (PySem.intKind prog w) [])
    (hkh : ∀ q ∈ kh, 0 ≤ q.1 ∧ q.1 < 3) (hx : 0 ≤ x) (hy0 : 0 ≤ y) (hy1 : y < 2147483647)
    (lo1 : (tq == sysModules) = false) (lo2 : (he == sysModules) = false) (lo3 : (pq == sysModules) = false) (lo4 : (bk == sysModules) = false)
    (hret : ∀ h' tk' m' nw ps, Fr h₀ L h' m' → News h₀ L h' nw → (289, tabObj ps) ∈ nw → Q (.ret (.bool true)) { s with heap := h', toks := tk' }) :
    wpAny (model prog w) (callerA.deeper (lawEnv L fa0)) (execs (lawBody.drop 6) (lawEnv L fa0)) Q (fun e s' => wpAny (model prog w) (callerA.deeper (lawEnv L fa0)) (leaving (lawEnv L fa0) e) (fun _ s'' => RE e s'') (fun e' s'' => RE e' s'') s') s := by
  conv in (execs _ _) => arg 1; whnf

  simp only [led, List.cons_append, List.nil_append] at N
  k_steps
  unfold Stop
  refine loopG (news := led w L src sl pa pd ta td tq pq he bk fa fd cla ss css sn cln t1 t2 t3 t4 t5 t6 t7 t8 r1 r2 r3 f1 f2 f3 f4 f5 f6 v1 v3 v6 v7 v8 y2 y3 z1 z2 z3 z4 z6 oS oL oP _ _ _ _ _ _ _ _ _ _ _ ++ ccs) (fun _ m nw => Jt prog w L src sl pa pd ta td tq pq he bk fa fd cla ss css sn cln t1 t2 t3 t4 t5 t6 t7 t8 r1 r2 r3 f1 f2 f3 f4 f5 f6 v1 v3 v6 v7 v8 y2 y3 z1 z2 z3 z4 z6 oS oL oP sls ccs m nw)
    rfl (by assumption) (small_one (by omega) (by omega) (by omega) (by omega)) (rangeSize_nat _ _) (by assumption) (by assumption) ⟨rfl, rfl, _, _, _, _, _, _, _, _, _, _, #[], _, kh, [], ccs, rfl, dN, h1, h2, h3, h4, hkh, (fun _ h => nomatch h), by assumption, by assumption, by assumption, fun _ h => h, hcs, codeSt0⟩ ?_ ?_
  · clear hx hy0 hy1
    rintro i t m₁ nw h tk I oI R hi ⟨hm1, hm2, x, y, tx, ty, k, otq, opq, ohe, obk, oN, ps, vN, kh, kb, tl, rfl, dN, h1, h2, h3, h4, hkh, hkb, hx, hy0, hy1, hsub, htl, hcode⟩ off hI F2 N2 fin hret2
    have hI1 : @LT.lt Nat _ fa I := hI (fa, instObj 213 fd) (by simp [led])
    have hI2 : @LT.lt Nat _ cla I := hI (cla, listOf css.toArray cln) (by simp [led])
    clear hI N hret
    simp only [led, List.cons_append, List.nil_append] at N2
    rw [kmap_of hm1 hm2] at F2
    have hk4 : kh.length ≤ 4 := short4 (nodup_of h1) hkh (by omega)
    have hb4 : kb.length ≤ 4 := short4 (nodup_of h3) hkb (by omega)
    k_steps
    · unfold Stop
      refine' law_turn (I := I) (oI := oI) (tl := tl) B ?F ?m1 ?m2 X T CH (news_sub ?N ?sub) l1 l2 l3 l4 m1 m2 m3 l5 l6 l7 l8 l9 l10 l11 l12 l13 n1 n2 n3 n4 n5 n6 n7 n8 n9 hcs dS dL dP ?dN (by assumption) hsn hsl hcc ?k1 ?k2 ?k3 ?k4 ?kk1 hkb hsub htl hcode ?kx ?ky ?ky1 lo1 lo2 lo3 lo4 ?off fin
      case F => assumption
      case N => assumption
      case m1 => rfl
      case m2 => rfl
      case sub =>
        intro p hp
        simp only [led, List.cons_append, List.nil_append] at hp
        iterate 19 (rcases List.mem_cons.mp hp with rfl | hp; · k_mem)
        (repeat (first | exact hp | refine List.mem_cons_of_mem _ ?_))
      case dN => assumption
      case k1 => assumption
      case k2 => assumption
      case k3 => assumption
      case k4 => assumption
      case kx => assumption
      case ky => assumption
      case ky1 => assumption
      case off => exact off
      case kk1 => exact stored_keys hkh (by assumption) (by assumption)
    · unfold Stop
      refine' law_scan (I := I) (oI := oI) (tl := tl) B ?F ?m1 ?m2 X T CH (news_sub ?N ?sub) l1 l2 l3 l4 m1 m2 m3 l5 l6 l7 l8 l9 l10 l11 l12 l13 n1 n2 n3 n4 n5 n6 n7 n8 n9 hcs dS dL dP ?dN (by assumption) hsn hsl hcc ?k1 ?k2 ?k3 ?k4 hkh hkb hsub htl hcode ?kx ?ky ?ky1 lo1 lo2 lo3 lo4 hI1 hI2 ?nx ?off fin
      case F => assumption
      case N => assumption
      case m1 => rfl
      case m2 => rfl
      case sub =>
        intro p hp
        simp only [led, List.cons_append, List.nil_append] at hp
        iterate 19 (rcases List.mem_cons.mp hp with rfl | hp; · k_mem)
        (repeat (first | exact hp | refine List.mem_cons_of_mem _ ?_))
      case dN => assumption
      case k1 => assumption
      case k2 => assumption
      case k3 => assumption
      case k4 => assumption
      case kx => assumption
      case ky => assumption
      case ky1 => assumption
      case off => exact off
      case nx =>
        intro s9 h9
        (try dsimp only)
        k_steps
        (try unfold Stop)
        exact h9
    · unfold Stop
      refine' law_turn (I := I) (oI := oI) (tl := tl) B ?F ?m1 ?m2 X T CH (news_sub ?N ?sub) l1 l2 l3 l4 m1 m2 m3 l5 l6 l7 l8 l9 l10 l11 l12 l13 n1 n2 n3 n4 n5 n6 n7 n8 n9 hcs dS dL dP ?dN (by assumption) hsn hsl hcc ?k1 ?k2 ?k3 ?k4 ?kk1 hkb hsub htl hcode ?kx ?ky ?ky1 lo1 lo2 lo3 lo4 ?off fin
      case F => assumption
      case N => assumption
      case m1 => rfl
      case m2 => rfl
      case sub =>
        intro p hp
        simp only [led, List.cons_append, List.nil_append] at hp
        iterate 19 (rcases List.mem_cons.mp hp with rfl | hp; · k_mem)
        (repeat (first | exact hp | refine List.mem_cons_of_mem _ ?_))
      case dN => assumption
      case k1 => assumption
      case k2 => assumption
      case k3 => assumption
      case k4 => assumption
      case kx => assumption
      case ky => assumption
      case ky1 => assumption
      case off => exact off
      case kk1 => exact without_keys hkh
    · unfold Stop
      refine' law_scan (I := I) (oI := oI) (tl := tl) B ?F ?m1 ?m2 X T CH (news_sub ?N ?sub) l1 l2 l3 l4 m1 m2 m3 l5 l6 l7 l8 l9 l10 l11 l12 l13 n1 n2 n3 n4 n5 n6 n7 n8 n9 hcs dS dL dP ?dN (by assumption) hsn hsl hcc ?k1 ?k2 ?k3 ?k4 hkh hkb hsub htl hcode ?kx ?ky ?ky1 lo1 lo2 lo3 lo4 hI1 hI2 ?nx ?off fin
      case F => assumption
      case N => assumption
      case m1 => rfl
      case m2 => rfl
      case sub =>
        intro p hp
        simp only [led, List.cons_append, List.nil_append] at hp
        iterate 19 (rcases List.mem_cons.mp hp with rfl | hp; · k_mem)
        (repeat (first | exact hp | refine List.mem_cons_of_mem _ ?_))
      case dN => assumption
      case k1 => assumption
      case k2 => assumption
      case k3 => assumption
      case k4 => assumption
      case kx => assumption
      case ky => assumption
      case ky1 => assumption
      case off => exact off
      case nx =>
        intro s9 h9
        (try dsimp only)
        k_steps
        (try unfold Stop)
        exact h9
  · rintro m₁ nw h tk ⟨hm1, hm2, x, y, tx, ty, k, otq, opq, ohe, obk, oN, ps, vN, kh, kb, tl, rfl, dN, h1, h2, h3, h4, hkh, hkb, hx, hy0, hy1, hsub, htl, hcode⟩ F2 N2
    exact law_done B F2 hm1 hm2 X T CH N2 l1 l2 l3 l4 m1 m2 m3 l5 l6 l7 l8 l9 l10 l11 l12 l13 n1 n2 n3 n4 n5 n6 n7 n8 n9 hcs dS dL dP dN (by assumption) hsn hsl hcc h1 h2 h3 h4 hkh hkb hsub htl hcode hx hy0 hy1 lo1 lo2 lo3 lo4 hret
end
theorem fillM1 : (PySem.Challenge.rw_ok0137_01 = PySem.Challenge.rw_ok0137_01) → (hd.heap_39 = hd.heap_39) → True := by k_fill; intros; trivial
section
local macro_rules | `(tactic| walk_at "execs cons") => `(tactic| (k_here; refine stop ?_))
local macro_rules | `(tactic| walk_at "getMethod ref") => `(tactic| (k_here; (with_reducible show wpAny _ _ (getMethod (Value.ref _) (PySem.Str.ofString "update") _) _ _ _); k_dflt (refine' kob_method (knd := PySem.intKind _ _) PySem.F.slot_dict_update PySem.F.type_dict_update ?N ?p ?d ?_; (case N => k_asm); (case p => k_mem); (case d => k_asm))))
local macro_rules | `(tactic| walk_at "call builtin:dict.update") => `(tactic| (k_here; k_dflt (refine' upd_empty (knd := PySem.intKind _ _) ?F ?N ?U ?d ?p ?d2 ?lo ?ne ?nd ?z ?_; (case F => k_asm); (case N => k_asm); (case U => k_updF); (case d => k_asm); (case p => k_mem); (case d2 => k_asm); (case lo => k_asm); (case ne => exact Nat.ne_of_lt (by omega)); (case nd => exact nodup_of (by assumption)); (case z => exact size3 (by assumption))); intro h' o' F' N' hd'; (try dsimp only at N')))
set_option maxHeartbeats 4000000 in
theorem law_upd {prog : Program} {w : World} {h₀ : Heap} {L fa0 : Addr} {u : Str → Option Value} {s : Shared} {Q : Flow → Shared → Prop} {RE : Value → Shared → Prop} {p : Program} {loose : List Str} {mean : ExcName → Option Value} {mg mb : Str → Option Value}
    {src sl pa pd ta td tq pq he bk fa fd cla : Addr} {x y : Int} {tx ty : Tok} {k sn cln : Nat} {ss css : List Value} {sls : List Int} {otq opq ohe obk oS oL oP oN : Obj} {vN : Option Value} {kh : Bk} {ccs : List (Addr × Obj)}
    {t1 t2 t3 t4 t5 t6 t7 t8 r1 r2 r3 f1 f2 f3 f4 f5 f6 : Tok} {v1 v3 v6 v7 v8 y2 y3 z1 z2 z3 z4 z6 : Value}
    (B : Below callerA h₀ [] h₀) (F : Fr h₀ L s.heap (kmap he bk u)) (X : (hd.heap_39 w.params).In h₀) (T : Top p loose mean mg mb h₀) (CH : CodeHd h₀ 291 289)
    (N : News h₀ L s.heap (led w L src sl pa pd ta td tq pq he bk fa fd cla ss css sn cln t1 t2 t3 t4 t5 t6 t7 t8 r1 r2 r3 f1 f2 f3 f4 f5 f6 v1 v3 v6 v7 v8 y2 y3 z1 z2 z3 z4 z6 oS oL oP x y tx ty k otq opq ohe obk oN #[] ++ ccs))
    (l1 : @LT.lt Nat _ 289 L) (l2 : @LT.lt Nat _ (L + 1 + 1 + 1 + 1) src) (l3 : @LT.lt Nat _ src pd) (l4 : @LT.lt Nat _ sl pd) (m1 : @Ne Addr sl src) (m2 : @Ne Addr sl (L + 1 + 1 + 1 + 1)) (m3 : @Ne Addr sl 289) (l5 : @LT.lt Nat _ pd pa) (l6 : @LT.lt Nat _ pa td) (l7 : @LT.lt Nat _ td ta) (l8 : @LT.lt Nat _ ta tq) (l9 : @LT.lt Nat _ tq pq) (l10 : @LT.lt Nat _ pq he) (l11 : @LT.lt Nat _ he bk) (l12 : @LT.lt Nat _ bk fd) (l13 : @LT.lt Nat _ fd fa) (n1 : @Ne Addr fa cla) (n2 : @Ne Addr fd cla) (n3 : @Ne Addr cla bk) (n4 : @Ne Addr cla he) (n5 : @Ne Addr cla pq) (n6 : @Ne Addr cla tq) (n7 : @Ne Addr cla src) (n8 : @Ne Addr cla (L + 1 + 1 + 1 + 1)) (n9 : @Ne Addr cla 289)
    (hcs : ∀ q ∈ ccs, @LT.lt Nat _ bk q.1)
    (dS : oS.data = .cell (some (.ref src))) (dL : oL.data = .cell (some (.ref sl))) (dP : oP.data = .cell (some (.ref pa))) (dN : oN.data = .cell vN)
    (hss : IntsAre ss sls) (hsn : 0 < sls.length ∧ sls.length ≤ 4) (hsl : ∀ c ∈ sls, 0 ≤ c ∧ c < 3) (hcc : CompsAt w ccs css sls)
    (h1 : otq.IsDictOf (PySem.intKind prog w) []) (h2 : ohe.IsDictOf (PySem.intKind prog w) kh) (h3 : opq.IsDictOf (PySem.intKind prog w) []) (h4 : obk.IsDictOf (PySem.intKind prog w) [])
    (hkh : ∀ q ∈ kh, 0 ≤ q.1 ∧ q.1 < 3) (hx : 0 ≤ x) (hy0 : 0 ≤ y) (hy1 : y < 2147483647)
    (lo1 : (tq == sysModules) = false) (lo2 : (he == sysModules) = false) (lo3 : (pq == sysModules) = false) (lo4 : (bk == sysModules) = false)
    (hret : ∀ h' tk' m' nw ps, Fr h₀ L h' m' → News h₀ L h' nw → (289, tabObj ps) ∈ nw → Q (.ret (.bool true)) { s with heap := h', toks := tk' }) :
    wpAny (model prog w) (callerA.deeper (lawEnv L fa0)) (execs (lawBody.drop 5) (lawEnv L fa0)) Q (fun e s' => wpAny (model prog w) (callerA.deeper (lawEnv L fa0)) (leaving (lawEnv L fa0) e) (fun _ s'' => RE e s'') (fun e' s'' => RE e' s'') s') s := by
  conv in (execs _ _) => arg 1; whnf
  have hk4 : kh.length ≤ 4 := short4 (nodup_of h2) hkh (by omega)
  simp only [led, List.cons_append, List.nil_append] at N
  refine wpAny_execs_cons ?_
  (try dsimp only)
  k_steps
  unfold Stop
  refine law_tail B (by assumption) X T CH (by assumption) l1 l2 l3 l4 m1 m2 m3 l5 l6 l7 l8 l9 l10 l11 l12 l13 n1 n2 n3 n4 n5 n6 n7 n8 n9 hcs dS dL dP dN hss hsn hsl hcc (by assumption) h2 h3 h4 hkh hx hy0 hy1 lo1 lo2 lo3 lo4 hret
end
section
set_option maxHeartbeats 4000000 in
theorem law_held {prog : Program} {w : World} {h₀ : Heap} {L fa0 : Addr} {u : Str → Option Value} {s : Shared} {Q : Flow → Shared → Prop} {RE : Value → Shared → Prop} {p : Program} {loose : List Str} {mean : ExcName → Option Value} {mg mb : Str → Option Value}
    {src sl pa pd ta td tq pq he bk fa fd cla : Addr} {x y : Int} {tx ty : Tok} {k sn cln : Nat} {ss css : List Value} {sls : List Int} {otq opq ohe obk oS oL oP oN : Obj} {vN : Option Value} {ccs : List (Addr × Obj)}
    {t1 t2 t3 t4 t5 t6 t7 t8 r1 r2 r3 f1 f2 f3 f4 f5 f6 : Tok} {v1 v3 v6 v7 v8 y2 y3 z1 z2 z3 z4 z6 : Value}
    (B : Below callerA h₀ [] h₀) (F : Fr h₀ L s.heap (kmap he bk u)) (X : (hd.heap_39 w.params).In h₀) (T : Top p loose mean mg mb h₀) (CH : CodeHd h₀ 291 289)
    (N : News h₀ L s.heap (led w L src sl pa pd ta td tq pq he bk fa fd cla ss css sn cln t1 t2 t3 t4 t5 t6 t7 t8 r1 r2 r3 f1 f2 f3 f4 f5 f6 v1 v3 v6 v7 v8 y2 y3 z1 z2 z3 z4 z6 oS oL oP x y tx ty k otq opq ohe obk oN #[] ++ ccs))
    (l1 : @LT.lt Nat _ 289 L) (l2 : @LT.lt Nat _ (L + 1 + 1 + 1 + 1) src) (l3 : @LT.lt Nat _ src pd) (l4 : @LT.lt Nat _ sl pd) (m1 : @Ne Addr sl src) (m2 : @Ne Addr sl (L + 1 + 1 + 1 + 1)) (m3 : @Ne Addr sl 289) (l5 : @LT.lt Nat _ pd pa) (l6 : @LT.lt Nat _ pa td) (l7 : @LT.lt Nat _ td ta) (l8 : @LT.lt Nat _ ta tq) (l9 : @LT.lt Nat _ tq pq) (l10 : @LT.lt Nat _ pq he) (l11 : @LT.lt Nat _ he bk) (l12 : @LT.lt Nat _ bk fd) (l13 : @LT.lt Nat _ fd fa) (n1 : @Ne Addr fa cla) (n2 : @Ne Addr fd cla) (n3 : @Ne Addr cla bk) (n4 : @Ne Addr cla he) (n5 : @Ne Addr cla pq) (n6 : @Ne Addr cla tq) (n7 : @Ne Addr cla src) (n8 : @Ne Addr cla (L + 1 + 1 + 1 + 1)) (n9 : @Ne Addr cla 289)
    (hcs : ∀ q ∈ ccs, @LT.lt Nat _ bk q.1)
    (dS : oS.data = .cell (some (.ref src))) (dL : oL.data = .cell (some (.ref sl))) (dP : oP.data = .cell (some (.ref pa))) (dN : oN.data = .cell vN)
    (hss : IntsAre ss sls) (hsn : 0 < sls.length ∧ sls.length ≤ 4) (hsl : ∀ c ∈ sls, 0 ≤ c ∧ c < 3) (hcc : CompsAt w ccs css sls)
    (h1 : otq.IsDictOf (PySem.intKind prog w) []) (h2 : ohe.IsDictOf (PySem.intKind prog w) []) (h3 : opq.IsDictOf (PySem.intKind prog w) []) (h4 : obk.IsDictOf (PySem.intKind prog w) [])
    (hx : 0 ≤ x) (hy0 : 0 ≤ y) (hy1 : y < 2147483647)
    (lo1 : (tq == sysModules) = false) (lo2 : (he == sysModules) = false) (lo3 : (pq == sysModules) = false) (lo4 : (bk == sysModules) = false)
    (hret : ∀ h' tk' m' nw ps, Fr h₀ L h' m' → News h₀ L h' nw → (289, tabObj ps) ∈ nw → Q (.ret (.bool true)) { s with heap := h', toks := tk' }) :
    wpAny (model prog w) (callerA.deeper (lawEnv L fa0)) (execs (lawBody.drop 4) (lawEnv L fa0)) Q (fun e s' => wpAny (model prog w) (callerA.deeper (lawEnv L fa0)) (leaving (lawEnv L fa0) e) (fun _ s'' => RE e s'') (fun e' s'' => RE e' s'') s') s := by
  conv in (execs _ _) => arg 1; whnf
  simp only [led, List.cons_append, List.nil_append] at N
  k_steps
  unfold Stop
  refine loopG (news := led w L src sl pa pd ta td tq pq he bk fa fd cla ss css sn cln t1 t2 t3 t4 t5 t6 t7 t8 r1 r2 r3 f1 f2 f3 f4 f5 f6 v1 v3 v6 v7 v8 y2 y3 z1 z2 z3 z4 z6 oS oL oP x y tx ty k otq opq ohe obk oN #[] ++ ccs) (n := 3) (fun _ m nw => m (PySem.Str.ofString "held") = some (.ref he) ∧ m (PySem.Str.ofString "book") = some (.ref bk) ∧ ∃ x y tx ty k ohe kh,
      nw = led w L src sl pa pd ta td tq pq he bk fa fd cla ss css sn cln t1 t2 t3 t4 t5 t6 t7 t8 r1 r2 r3 f1 f2 f3 f4 f5 f6 v1 v3 v6 v7 v8 y2 y3 z1 z2 z3 z4 z6 oS oL oP x y tx ty k otq opq ohe obk oN #[] ++ ccs ∧ ohe.IsDictOf (PySem.intKind prog w) kh ∧ (∀ q ∈ kh, 0 ≤ q.1 ∧ q.1 < 3) ∧ 0 ≤ x ∧ 0 ≤ y ∧ y < 2147483647)
    rfl (by assumption) (small_one (by omega) (by omega) (by omega) (by omega)) (by decide) (by assumption) (by assumption) ⟨rfl, rfl, _, _, _, _, _, _, [], rfl, h2, (fun _ h => nomatch h), hx, hy0, hy1⟩ ?_ ?_
  · clear hx hy0 hy1 h2
    rintro i t m₁ nw h tk I oI R hi ⟨hm1, hm2, x, y, tx, ty, k, ohe, kh, rfl, h2, hkh, hx, hy0, hy1⟩ off hI F2 N2 fin hret2
    have hI1 : @LT.lt Nat _ fa I := hI (fa, instObj 213 fd) (by simp [led])
    have hI2 : @LT.lt Nat _ cla I := hI (cla, listOf css.toArray cln) (by simp [led])
    clear hI hret
    (try clear N)
    simp only [led, List.cons_append, List.nil_append] at N2
    rw [kmap_of hm1 hm2] at F2
    have hk4 : kh.length ≤ 4 := short4 (nodup_of h2) hkh (by omega)
    k_steps
    · (refine' fin _ (led w L src sl pa pd ta td tq pq he bk fa fd cla ss css sn cln t1 t2 t3 t4 t5 t6 t7 t8 r1 r2 r3 f1 f2 f3 f4 f5 f6 v1 v3 v6 v7 v8 y2 y3 z1 z2 z3 z4 z6 oS oL oP _ _ _ _ _ otq opq _ obk oN #[] ++ ccs) _ _ ?F (news_sub ?N ?sub) ?off ⟨?m1, ?m2, _, _, _, _, _, _, _, rfl, ?k2, ?kk1, ?kx, ?ky, ?ky1⟩)
      case F => assumption
      case N => assumption
      case m1 => rfl
      case m2 => rfl
      case sub =>
        intro p hp
        simp only [led, List.cons_append, List.nil_append] at hp
        iterate 19 (rcases List.mem_cons.mp hp with rfl | hp; · k_mem)
        (repeat (first | exact hp | refine List.mem_cons_of_mem _ ?_))
      case k2 => assumption
      case kk1 => exact stored_keys hkh (by omega) (by omega)
      case kx => assumption
      case ky => assumption
      case ky1 => assumption
      case off => exact off
    · (refine' fin _ (led w L src sl pa pd ta td tq pq he bk fa fd cla ss css sn cln t1 t2 t3 t4 t5 t6 t7 t8 r1 r2 r3 f1 f2 f3 f4 f5 f6 v1 v3 v6 v7 v8 y2 y3 z1 z2 z3 z4 z6 oS oL oP _ _ _ _ _ otq opq _ obk oN #[] ++ ccs) _ _ ?F (news_sub ?N ?sub) ?off ⟨?m1, ?m2, _, _, _, _, _, _, _, rfl, ?k2, ?kk1, ?kx, ?ky, ?ky1⟩)
      case F => assumption
      case N => assumption
      case m1 => rfl
      case m2 => rfl
      case sub =>
        intro p hp
        simp only [led, List.cons_append, List.nil_append] at hp
        iterate 19 (rcases List.mem_cons.mp hp with rfl | hp; · k_mem)
        (repeat (first | exact hp | refine List.mem_cons_of_mem _ ?_))
      case k2 => assumption
      case kk1 => exact hkh
      case kx => assumption
      case ky => assumption
      case ky1 => assumption
      case off => exact off
  · rintro m₁ nw h tk ⟨hm1, hm2, x, y, tx, ty, k, ohe, kh, rfl, h2, hkh, hx, hy0, hy1⟩ F2 N2
    rw [kmap_of hm1 hm2] at F2
    exact law_upd B F2 X T CH N2 l1 l2 l3 l4 m1 m2 m3 l5 l6 l7 l8 l9 l10 l11 l12 l13 n1 n2 n3 n4 n5 n6 n7 n8 n9 hcs dS dL dP dN hss hsn hsl hcc h1 h2 h3 h4 hkh hx hy0 hy1 lo1 lo2 lo3 lo4 hret
end
theorem fillM3 : (PySem.Challenge.rw_ok0137_01 = PySem.Challenge.rw_ok0137_01) → (hd.heap_39 = hd.heap_39) → True := by k_fill; intros; trivial
section
local macro_rules | `(tactic| walk_at "eval ListComp") => `(tactic| (k_here; k_dflt (refine LCg.ListComp_U (F₀ := by k_asm) (by with_unfolding_all rfl) (by decide) (by rfl) (by decide) (by rfl) ?_)))
local macro_rules | `(tactic| walk_at "CompSrc") => `(tactic| (k_here; refine stop ?_))
local macro_rules | `(tactic| walk_at "execs cons") => `(tactic| (k_here; (with_reducible show wpAny _ _ (execs (Stmt.For .. :: _) _) _ _ _); refine stop ?_))
set_option maxHeartbeats 4000000 in
theorem law_frame {prog : Program} {w : World} {h₀ : Heap} {L fa0 : Addr} {u : Str → Option Value} {s : Shared} {Q : Flow → Shared → Prop} {RE : Value → Shared → Prop} {p : Program} {loose : List Str} {mean : ExcName → Option Value} {mg mb : Str → Option Value}
    {src sl pa pd ta td tq pq he bk : Addr} {x y : Int} {tx ty : Tok} {k sn : Nat} {ss : List Value} {sls : List Int} {otq opq ohe obk oS oL oP oN : Obj} {vN : Option Value}
    {t1 t2 t3 t4 t5 t6 t7 t8 r1 r2 r3  : Tok} {v1 v2 v3 v6 v7 v8 y2 y3 : Value}
    (B : Below callerA h₀ [] h₀) (F : Fr h₀ L s.heap (kmap he bk u)) (X : (hd.heap_39 w.params).In h₀) (T : Top p loose mean mg mb h₀) (CH : CodeHd h₀ 291 289)
     (N : News h₀ L s.heap [(bk, obk), (he, ohe), (pq, opq), (tq, otq), (ta, instObj 84 td), (td, dictOf [ent w "quant" r1 (.ref tq), ent w "codes" r2 y2, ent w "conditioning" r3 y3] 3),
      (pa, instObj 105 pd), (pd, dictOf [ent w "n" t1 v1, ent w "frame" t2 v2, ent w "grid" t3 v3, ent w "tables" t4 (.ref ta), ent w "quant" t5 (.ref pq), ent w "apps" t6 v6, ent w "scans" t7 v7, ent w "interval" t8 v8] 8),
      (sl, listOf ss.toArray sn), (src, srcObj x y tx ty k), (L + 1 + 1 + 1 + 1, oN), (L + 1 + 1 + 1, oP), (L + 1 + 1, oL), (L + 1, oS), (289, tabObj #[])])
    (l1 : @LT.lt Nat _ 289 L) (l2 : @LT.lt Nat _ (L + 1 + 1 + 1 + 1) src) (l3 : @LT.lt Nat _ src pd) (l4 : @LT.lt Nat _ sl pd) (m1 : @Ne Addr sl src) (m2 : @Ne Addr sl (L + 1 + 1 + 1 + 1)) (m3 : @Ne Addr sl 289) (l5 : @LT.lt Nat _ pd pa) (l6 : @LT.lt Nat _ pa td) (l7 : @LT.lt Nat _ td ta) (l8 : @LT.lt Nat _ ta tq) (l9 : @LT.lt Nat _ tq pq) (l10 : @LT.lt Nat _ pq he) (l11 : @LT.lt Nat _ he bk)
    
    (dS : oS.data = .cell (some (.ref src))) (dL : oL.data = .cell (some (.ref sl))) (dP : oP.data = .cell (some (.ref pa))) (dN : oN.data = .cell vN)
    (hss : IntsAre ss sls) (hsn : 0 < sls.length ∧ sls.length ≤ 4) (hsl : ∀ c ∈ sls, 0 ≤ c ∧ c < 3)
    (h1 : otq.IsDictOf (PySem.intKind prog w) []) (h2 : ohe.IsDictOf (PySem.intKind prog w) []) (h3 : opq.IsDictOf (PySem.intKind prog w) []) (h4 : obk.IsDictOf (PySem.intKind prog w) [])
    (hx : 0 ≤ x) (hy0 : 0 ≤ y) (hy1 : y < 2147483647)
    (lo1 : (tq == sysModules) = false) (lo2 : (he == sysModules) = false) (lo3 : (pq == sysModules) = false) (lo4 : (bk == sysModules) = false)
    (hret : ∀ h' tk' m' nw ps, Fr h₀ L h' m' → News h₀ L h' nw → (289, tabObj ps) ∈ nw → Q (.ret (.bool true)) { s with heap := h', toks := tk' }) :
    wpAny (model prog w) (callerA.deeper (lawEnv L fa0)) (execs (lawBody.drop 3) (lawEnv L fa0)) Q (fun e s' => wpAny (model prog w) (callerA.deeper (lawEnv L fa0)) (leaving (lawEnv L fa0) e) (fun _ s'' => RE e s'') (fun e' s'' => RE e' s'') s') s := by
  conv in (execs _ _) => arg 1; whnf
  refine wpAny_execs_cons ?_
  (try dsimp only)
  k_steps
  unfold Stop
  refine LCg.CompSrc.range rfl (by assumption) (by assumption) (by assumption) (small_one (by omega) (by omega) (by omega) (by omega)) (rangeSize_nat _ _) (by rw [sizeLine_eq]; omega) ?_
  intro g3
  refine crestC sls (by omega) (fun _ => trivial) (fun _ _ h => h) ?_ ?_
  · intro i t I oI C oC D m₂ vs ccs h tk E' R hi hC hx F2 N2 off ne ret
    (try simp only [List.cons_append, List.nil_append] at N2)
    k_steps
    exact ret _ _ _ _ _ _ _ _ _ _ _ _ (by assumption) (by assumption) (by assumption) (by assumption)
  · intro vs ccs hcc hlt
    intro D h tk F2 N2 off
    (try simp only [List.cons_append, List.nil_append] at N2)
    have hcs : ∀ q ∈ ccs, @LT.lt Nat _ bk q.1 := fun q hq => (hlt q hq).1
    have off2 := (off1_app.mp off).1
    have n3 : @Ne Addr D bk := off1_ne off2 (by k_mem)
    have n4 : @Ne Addr D he := off1_ne off2 (by k_mem)
    have n5 : @Ne Addr D pq := off1_ne off2 (by k_mem)
    have n6 : @Ne Addr D tq := off1_ne off2 (by k_mem)
    have n7 : @Ne Addr D src := off1_ne off2 (by k_mem)
    have n8 : @Ne Addr D (L + 1 + 1 + 1 + 1) := off1_ne off2 (by k_mem)
    have n9 : @Ne Addr D 289 := off1_ne off2 (by k_mem)
    have n10 : @Ne Addr D pd := off1_ne off2 (by k_mem)
    clear off off2 hlt
    k_steps
    unfold Stop
    (rename News _ _ _ _ => N9)
    refine' law_held (cla := D) (css := vs) (ccs := ccs) B ?F X T CH (news_sub N9 ?sub) l1 l2 l3 l4 m1 m2 m3 l5 l6 l7 l8 l9 l10 l11 ?l12 ?l13 ?n1 ?n2 n3 n4 n5 n6 n7 n8 n9 hcs dS dL dP dN hss hsn hsl hcc h1 h2 h3 h4 hx hy0 hy1 lo1 lo2 lo3 lo4 hret
    case sub =>
      intro p hp
      simp only [led, List.cons_append, List.nil_append] at hp
      iterate 18 (rcases List.mem_cons.mp hp with rfl | hp; · k_mem)
      (repeat (first | exact hp | refine List.mem_cons_of_mem _ ?_))
    case F => assumption
    case l12 => omega
    case l13 => omega
    case n1 => exact Nat.ne_of_gt (by omega)
    case n2 => exact Nat.ne_of_gt (by omega)
end
section
local macro_rules | `(tactic| walk_at "execs cons") => `(tactic| (k_here; (with_reducible show wpAny _ _ (execs (Stmt.Assign .. :: _) (lawEnv _ _)) _ _ _); refine stop ?_))
theorem sub15 {α : Type} {l : List α} {a1 a2 a3 a4 a5 a6 a7 a8 a9 a10 a11 a12 a13 a14 a15 : α} (h1 : a1 ∈ l) (h2 : a2 ∈ l) (h3 : a3 ∈ l) (h4 : a4 ∈ l) (h5 : a5 ∈ l) (h6 : a6 ∈ l) (h7 : a7 ∈ l) (h8 : a8 ∈ l) (h9 : a9 ∈ l) (h10 : a10 ∈ l) (h11 : a11 ∈ l) (h12 : a12 ∈ l) (h13 : a13 ∈ l) (h14 : a14 ∈ l) (h15 : a15 ∈ l) : ∀ p ∈ [a1, a2, a3, a4, a5, a6, a7, a8, a9, a10, a11, a12, a13, a14, a15], p ∈ l := by
  intro p hp
  rcases List.mem_cons.mp hp with rfl | hp
  · exact h1
  rcases List.mem_cons.mp hp with rfl | hp
  · exact h2
  rcases List.mem_cons.mp hp with rfl | hp
  · exact h3
  rcases List.mem_cons.mp hp with rfl | hp
  · exact h4
  rcases List.mem_cons.mp hp with rfl | hp
  · exact h5
  rcases List.mem_cons.mp hp with rfl | hp
  · exact h6
  rcases List.mem_cons.mp hp with rfl | hp
  · exact h7
  rcases List.mem_cons.mp hp with rfl | hp
  · exact h8
  rcases List.mem_cons.mp hp with rfl | hp
  · exact h9
  rcases List.mem_cons.mp hp with rfl | hp
  · exact h10
  rcases List.mem_cons.mp hp with rfl | hp
  · exact h11
  rcases List.mem_cons.mp hp with rfl | hp
  · exact h12
  rcases List.mem_cons.mp hp with rfl | hp
  · exact h13
  rcases List.mem_cons.mp hp with rfl | hp
  · exact h14
  rcases List.mem_cons.mp hp with rfl | hp
  · exact h15
  cases hp
theorem fr_kmap {h₀ h : Heap} {L he bk : Addr} {m : Str → Option Value} (F : Fr h₀ L h m) (h1 : m (PySem.Str.ofString "held") = some (.ref he)) (h2 : m (PySem.Str.ofString "book") = some (.ref bk)) : Fr h₀ L h (kmap he bk m) := kmap_of h1 h2 ▸ F
set_option maxHeartbeats 4000000 in
theorem law_mid {prog : Program} {w : World} {h₀ : Heap} {L fa0 : Addr} {u : Str → Option Value} {s : Shared} {Q : Flow → Shared → Prop} {RE : Value → Shared → Prop} {p : Program} {loose : List Str} {mean : ExcName → Option Value} {mg mb : Str → Option Value}
    {src sl : Addr} {x y : Int} {tx ty : Tok} {k sn : Nat} {ss : List Value} {sls : List Int} {oS oL oP oN : Obj} {vP vN : Option Value}
    (B : Below callerA h₀ [] h₀) (F : Fr h₀ L s.heap u) (X : (hd.heap_39 w.params).In h₀) (T : Top p loose mean mg mb h₀) (CH : CodeHd h₀ 291 289)
    (N : News h₀ L s.heap [(sl, listOf ss.toArray sn), (src, srcObj x y tx ty k), (L + 1 + 1 + 1 + 1, oN), (L + 1 + 1 + 1, oP), (L + 1 + 1, oL), (L + 1, oS), (289, tabObj #[])])
    (l1 : @LT.lt Nat _ 289 L) (l2 : @LT.lt Nat _ (L + 1 + 1 + 1 + 1) src) (m1 : @Ne Addr sl src) (m2 : @Ne Addr sl (L + 1 + 1 + 1 + 1)) (m3 : @Ne Addr sl 289) (m4 : @Ne Addr sl (L + 1 + 1 + 1))
    (dS : oS.data = .cell (some (.ref src))) (dL : oL.data = .cell (some (.ref sl))) (dP : oP.data = .cell vP) (dN : oN.data = .cell vN)
    (hss : IntsAre ss sls) (hsn : 0 < sls.length ∧ sls.length ≤ 4) (hsl : ∀ c ∈ sls, 0 ≤ c ∧ c < 3) (hx : 0 ≤ x) (hy0 : 0 ≤ y) (hy1 : y < 2147483647)
    (hret : ∀ h' tk' m' nw ps, Fr h₀ L h' m' → News h₀ L h' nw → (289, tabObj ps) ∈ nw → Q (.ret (.bool true)) { s with heap := h', toks := tk' }) :
    wpAny (model prog w) (callerA.deeper (lawEnv L fa0)) (execs (lawBody.drop 2) (lawEnv L fa0)) Q (fun e s' => wpAny (model prog w) (callerA.deeper (lawEnv L fa0)) (leaving (lawEnv L fa0) e) (fun _ s'' => RE e s'') (fun e' s'' => RE e' s'') s') s := by
  conv in (execs _ _) => arg 1; whnf
  refine wpAny_execs_cons ?_
  (try dsimp only)
  k_steps
  unfold Stop
  (rename News _ _ _ _ => N9)
  (rename Fr _ _ _ _ => F9)
  have F10 := fr_kmap F9 rfl rfl
  refine' law_frame B F10 X T CH (news_sub N9 (sub15 ?q1 ?q2 ?q3 ?q4 ?q5 ?q6 ?q7 ?q8 ?q9 ?q10 ?q11 ?q12 ?q13 ?q14 ?q15)) l1 l2 ?l3 ?l4 m1 m2 m3 ?l5 ?l6 ?l7 ?l8 ?l9 ?l10 ?l11 dS dL ?dP dN hss hsn hsl ?h1 ?h2 ?h3 ?h4 hx hy0 hy1 ?lo1 ?lo2 ?lo3 ?lo4 hret
  case q12 => k_mem
  case q13 => k_mem
  case q14 => k_mem
  case q15 => k_mem
  case q11 => k_mem
  case q9 => k_mem
  case q10 => k_mem
  case dP => assumption
  case q7 => k_mem
  case q8 => k_mem
  case q5 => k_mem
  case q6 => k_mem
  case q1 => k_mem
  case q2 => k_mem
  case q3 => k_mem
  case q4 => k_mem
  case h1 => assumption
  case h2 => assumption
  case h3 => assumption
  case h4 => assumption
  case lo1 => assumption
  case lo2 => assumption
  case lo3 => assumption
  case lo4 => assumption
  all_goals omega
end
end Mine
end
section
open PySem PySem.W PyProof.Rows PySem.Calls Mine
set_option maxRecDepth 100000
local macro_rules | `(tactic| walk_at "call ref") => `(tactic| (k_here; (with_reducible show wpAny _ _ (call (Value.ref 259) _) _ _ _); k_dflt (refine' pool_spec ?B ?F ?X ?N ?T ?hk ?hl ?hi ?hn ?hd ?hu ?_; (case B => k_asm); (case F => k_asm); (case X => k_asm); (case N => k_asm); (case T => k_asm); (case hk => exact rfl); (case hl => assumption); (case hi => assumption); (case hn => omega); (case hd => decide); (case hu => decide)); intro D' x' tx' y' ty' h' tk' hx' hy0' hy1' l1 F' N'; (try k_lt l1)))
local macro_rules | `(tactic| walk_at "call ref") => `(tactic| (k_here; (with_reducible show wpAny _ _ (call (Value.ref 266) _) _ _ _); k_dflt (refine' take_spec ?B ?F ?X ?N ?T ?hk ?U ?hx ?hy ?hy2 ?ht ?ht2 ?hd ?hu ?_; (case B => k_asm); (case F => k_asm); (case X => k_asm); (case N => k_asm); (case T => k_asm); (case hk => exact rfl); (case U => k_updF); (case hx => assumption); (case hy => assumption); (case hy2 => assumption); (case ht => omega); (case ht2 => omega); (case hd => decide); (case hu => decide)); intro gt' gtt' x' tx' y' ty' n' h' tk' hg0' hg1' hx' hy0' hy1' F' N'; (try dsimp only at N')))
local macro_rules | `(tactic| walk_at "eval ListComp") => `(tactic| (k_here; k_dflt (refine LCg.ListComp_U (F₀ := by k_asm) (by with_unfolding_all rfl) (by decide) (by rfl) (by decide) (by rfl) ?_)))
local macro_rules | `(tactic| walk_at "exec Assign cons ListComp") => `(tactic| (k_here; refine wpAny_Assign_Name ?_))
local macro_rules | `(tactic| walk_at "CompSrc") => `(tactic| (k_here; refine stop ?_))
local macro_rules | `(tactic| k_all) => `(tactic| first | with_reducible assumption | (refine tail_lt ?_; (iterate 45 (try (first | with_reducible assumption | refine' And.right ?_))); done))
local macro_rules | `(tactic| walk_at "execs cons") => `(tactic| (k_here; (with_reducible show wpAny _ _ (execs (Stmt.Assign [Expr.Tuple ..] .. :: _) _) _ _ _); refine stop ?_))
set_option maxHeartbeats 40000000 in
theorem PySem.Challenge.cw_ok0137_01_holds : PySem.Challenge.rw_ok0137_01.Holds := by
  exact hd (by
    w_strict (k_go0; (all_goals try k_fold); k_steps)
    unfold Stop
    refine LCg.CompSrc.range rfl (by assumption) (by assumption) (by assumption) (small_one (by omega) (by omega) (by omega) (by omega)) (rangeSize_nat _ _) (by rw [sizeLine_eq]; omega) ?_
    intro g2
    refine crestS 3 (by assumption) (by assumption) (by assumption) (fun _ => trivial) ?_ ?_
    · intro i v I oI C oC D m₂ ys a ta b tb k h tk E' R hi hv ha hb hb2 hC hx F2 N2 off ne ret
      obtain ⟨t9, rfl⟩ := hv
      try simp only [LCg.Off3, and_true] at off
      k_steps
      (rename News _ _ _ _ => N9)
      exact ret _ _ _ _ _ _ _ _ _ (by assumption) (by assumption) (by assumption) (by assumption) (by assumption) (by assumption) N9
    · intro ys ns a ta b tb k hys hln hns ha hb hb2
      intro D h tk F2 N2 off
      try simp only [LCg.Off1, and_true] at off
      k_steps
      unfold Stop
      (rename News _ _ _ _ => N9)
      (rename Fr _ _ _ _ => F9)
      (rename Top _ _ _ _ _ _ => T9)
      (rename CodeHd _ _ _ => C9)
      (rename Below _ _ _ _ => B9)
      (rename Frag.In _ _ => X9)
      obtain ⟨o1, o2, o3, o4, o5, o6⟩ := off
      refine' law_mid (L := _) B9 F9 X9 T9 C9 N9 ?l1 ?l2 ?m1 ?m2 ?m3 ?m4 ?dS ?dL ?dP ?dN hys ?hsn hns ha hb hb2 ?hret
      case l1 => assumption
      case l2 => omega
      case m1 => exact Ne.symm o1
      case m2 => exact Ne.symm o2
      case m3 => exact Ne.symm o6
      case m4 => exact Ne.symm o3
      case dS => assumption
      case dL => assumption
      case dP => assumption
      case dN => assumption
      case hsn => omega
      case hret =>
        intro h' tk' m' nw ps F2 N2 hm2
        k_steps)
end
