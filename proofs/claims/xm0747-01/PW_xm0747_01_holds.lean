import PyProof.Rows.All
import Wide.All
import OpenK.AllK
import Wide.FinOn
import PySem.Challenge.RW_xm0747_01
open PySem PySem.W PyProof.Rows
set_option Elab.async false
namespace Mine
set_option maxRecDepth 100000 in
set_option maxHeartbeats 8000000 in
open_top hd for PySem.Challenge.rw_xm0747_01
end Mine
open PySem PySem.W PyProof.Rows PySem.Calls PySem.Spec
set_option hygiene false

section
set_option maxRecDepth 100000
set_option maxHeartbeats 8000000
namespace Mine

/-- what a call of f, upon a ledger, gives back -/
noncomputable def TellsX (w : World) (mean : ExcName → Option Value) (mg mb : Str → Option Value) (f : Addr) (dd uu : Nat) (led : List (Addr × Obj)) (args : List Value) (Post : Value → List (Addr × Obj) → Prop) : Prop :=
  ∀ (dp un : Nat) (gd : Option (List Code)) (cn : Str) (cs : Scope) (a : Addr) (ccd : Value) (cl : List (Str × Addr)) (outer : List Env) (A₀ : Around) (base h₀ : Heap) (L : Addr) (m : Str → Option Value) (s : Shared) (Q E : Value → Shared → Prop),
    Below A₀ base outer h₀ → Fr h₀ L s.heap m → (hd.heap_39 w.params).In h₀ → News h₀ L s.heap led → Top hd.view_39 (looseW hd.view_39 []) mean mg mb h₀ → cs.kind = .function → dp + dd < recursionLimit → un + uu < cLine →
    (∀ r led' h' tk', Fr h₀ L h' m → News h₀ L h' led' → Post r led' → Q r { s with heap := h', toks := tk' }) →
    wpAny (model PySem.Challenge.rw_xm0747_01.row.prog w) (ktrTop dp un gd cn cs L a ccd cl outer) (call (.ref f) args) Q E s

section
variable {w : World} {mean : ExcName → Option Value} {mg mb : Str → Option Value} {f : Addr} {dd uu : Nat} {led led₁ : List (Addr × Obj)} {args : List Value} {Post Post' : Value → List (Addr × Obj) → Prop}
theorem tellsX_use {dp un : Nat} {gd : Option (List Code)} {cn : Str} {cs : Scope} {a : Addr} {ccd : Value} {cl : List (Str × Addr)} {outer : List Env} {A₀ : Around} {base h₀ : Heap} {L : Addr} {m : Str → Option Value} {s : Shared} {Q E : Value → Shared → Prop}
    (B : Below A₀ base outer h₀) (F : Fr h₀ L s.heap m) (X : (hd.heap_39 w.params).In h₀) (N : News h₀ L s.heap led) (T : Top hd.view_39 (looseW hd.view_39 []) mean mg mb h₀) (hk : cs.kind = .function)
    (C : TellsX w mean mg mb f dd uu led args Post) (hd' : dp + dd < recursionLimit) (hu : un + uu < cLine)
    (ret : ∀ r led' h' tk', Fr h₀ L h' m → News h₀ L h' led' → Post r led' → Q r { s with heap := h', toks := tk' }) :
    wpAny (model PySem.Challenge.rw_xm0747_01.row.prog w) (ktrTop dp un gd cn cs L a ccd cl outer) (call (.ref f) args) Q E s :=
  C _ _ _ _ _ _ _ _ _ _ _ _ _ _ _ _ _ B F X N T hk hd' hu ret
theorem TellsX.mono (C : TellsX w mean mg mb f dd uu led₁ args Post) (hs : ∀ p ∈ led₁, p ∈ led) (h : ∀ r l, Post r l → ∃ l', (∀ p ∈ l', p ∈ l) ∧ Post' r l') : TellsX w mean mg mb f dd uu led args Post' :=
  fun _ _ _ _ _ _ _ _ _ _ _ _ _ _ _ _ _ B F X N T hk hd hu ret => C _ _ _ _ _ _ _ _ _ _ _ _ _ _ _ _ _ B F X (fun p hp => N p (hs p hp)) T hk hd hu
    fun r l h' tk' F' N' hp => let ⟨l', hl, hp'⟩ := h r l hp; ret r l' h' tk' F' (fun p hp => N' p (hl p hp)) hp'
/-- the entry that a call turns may stand anywhere -/
theorem tells_src {src : Addr} {S : Obj} {g : Obj → List (Addr × Obj)} {R : Value → Obj → List (Addr × Obj) → Prop} (U : UpdF src S led g)
    (C : ∀ rest, (∀ p ∈ rest, p.1 ≠ src) → (∀ p ∈ led, p.1 ≠ src → p ∈ rest) → (∀ p ∈ rest, p ∈ led) →
      TellsX w mean mg mb f dd uu ((src, S) :: rest) args (fun r led' => ∃ S' new, R r S' new ∧ (∀ q ∈ (src, S) :: rest, ∀ p ∈ new, q.1 < p.1) ∧ led' = (src, S') :: (new ++ rest))) :
    TellsX w mean mg mb f dd uu led args (fun r led' => ∃ S' new, R r S' new ∧ (∀ q ∈ led, ∀ p ∈ new, q.1 < p.1) ∧ led' = new ++ g S') := by
  obtain ⟨pre, post, rfl, hg, h1, h2⟩ := U.split
  have hin : ∀ p ∈ (src, S) :: (pre ++ post), p ∈ pre ++ (src, S) :: post := fun p hp => by
    rcases List.mem_cons.mp hp with rfl | hp
    · exact List.mem_append.mpr (.inr (.head _))
    · exact (List.mem_append.mp hp).elim (fun h => List.mem_append.mpr (.inl h)) fun h => List.mem_append.mpr (.inr (.tail _ h))
  have hout : ∀ p ∈ pre ++ (src, S) :: post, p ∈ (src, S) :: (pre ++ post) := fun p hp => by
    rcases List.mem_append.mp hp with h | h
    · exact .tail _ (List.mem_append.mpr (.inl h))
    · rcases List.mem_cons.mp h with rfl | h
      · exact .head _
      · exact .tail _ (List.mem_append.mpr (.inr h))
  refine (C (pre ++ post) ?_ ?_ (fun p hp => hin p (.tail _ hp))).mono hin ?_
  · intro p hp
    exact (List.mem_append.mp hp).elim (h1 p) (h2 p)
  · intro p hp hne
    rcases List.mem_cons.mp (hout p hp) with rfl | h
    · exact absurd rfl hne
    · exact h
  · rintro r l ⟨S', new, hR, hlt, rfl⟩
    refine ⟨new ++ g S', ?_, S', new, hR, fun q hq p hp => hlt q (hout q hq) p hp, rfl⟩
    intro p hp
    rw [hg] at hp
    rcases List.mem_append.mp hp with h | h
    · exact .tail _ (List.mem_append.mpr (.inl h))
    · rcases List.mem_append.mp h with h | h
      · exact .tail _ (List.mem_append.mpr (.inr (List.mem_append.mpr (.inl h))))
      · rcases List.mem_cons.mp h with rfl | h
        · exact .head _
        · exact .tail _ (List.mem_append.mpr (.inr (List.mem_append.mpr (.inr h))))
end

/-- the pool's two numbers -/
noncomputable def SrcOk (a b : Int) : Prop := 0 ≤ a ∧ 0 ≤ b ∧ b < 2147483647
/-- the pool as an object -/
noncomputable def SrcIs (o : Obj) : Prop := ∃ a b ta tb n, SrcOk a b ∧ o = listOf #[.int a ta, .int b tb] n

theorem ne_ofLt {d : Addr} {l : List (Addr × Obj)} (h : AllLt d l) : ∀ p ∈ l, p.1 ≠ d := fun p hp => Nat.ne_of_lt (ktn_ltOf h p hp)
theorem sq_ok (a x y : Int) : IntMulOk ([a, x.fmod 2147483647].getD (Int.toNat 1) 0) y :=
  .of_left (intBits_le_64 (Int.lt_of_lt_of_le (by decide) (fmod_lo x (n := 2147483647) (by decide))) (Int.lt_trans (fmod_hi x (n := 2147483647) (by decide)) (by decide)))
theorem fdiv_lo {a n : Int} (h : 0 ≤ a) (hn : 0 < n) : 0 ≤ a.fdiv n := by
  rw [Int.fdiv_eq_ediv_of_nonneg a (Int.le_of_lt hn)]; exact Int.ediv_nonneg h (Int.le_of_lt hn)
section
variable {prog : Program} {w : World} {A : Around} {E : Value → Shared → Prop} {s : Shared} {h₀ : Heap} {L l : Addr} {news : List (Addr × Obj)} {vs : List Value} {n : Nat} {Q : Value → Shared → Prop}
theorem len_led (N : News h₀ L s.heap news) (hm : (l, listOf vs.toArray n) ∈ news) (hfit : vs.length < 2 ^ 62) (h : Q (.int (vs.length : Nat) (s.toks + 1)) { s with toks := s.toks + 1 + 1 }) :
    wpAny (model prog w) A (call (.builtin "len") [.ref l]) Q E s := by
  refine Calls.call_len_list (PySem.IsL.isList (n := n) (N _ hm).1) (by rw [List.size_toArray]; omega) ?_
  rw [List.size_toArray]; exact h
theorem item_led {value slice : PySem.Expr} {k : Int} {u : Tok} (N : News h₀ L s.heap news) (hm : (l, listOf vs.toArray n) ∈ news) (h0 : 0 ≤ k) (h1 : k < vs.length) (hfit : k < 2 ^ 63) (h : ∀ v, vs[k.toNat]? = some v → Q v s)
    (hs : subscripted slice false (.ref l) (.int k u) = operate [.ref l, .int k u] (getItem (.ref l) (.int k u)) := by with_unfolding_all rfl) :
    wpAny (model prog w) A (subscriptTail value slice (.ref l) (.int k u)) Q E s := by
  have hl := PySem.IsL.isList (n := n) (N _ hm).1
  have hk : k.toNat < vs.length := by omega
  refine tail_any hl.typeIs slot_list_getitem.lookup (wpAny_getItem_list hl h0 hfit (x := vs[k.toNat]) (by simp [hk]) (h _ (by simp [hk]))) hs
end
theorem src_turn (x a : Int) (h : 0 ≤ a) : SrcOk a (x.fmod 2147483647) := ⟨h, fmod_lo _ (by decide), fmod_hi _ (by decide)⟩
/-- where the walk is to halt -/
noncomputable def Stop (P : Prop) : Prop := P
theorem stop_elim {P : Prop} (h : Stop P) : P := h
end Mine
end

section
set_option maxRecDepth 100000
set_option maxHeartbeats 8000000
namespace Mine

section
local macro_rules | `(tactic| k_all) => `(tactic| first | assumption | exact ne_ofLt (by assumption))
local macro_rules | `(tactic| mul_fits) => `(tactic| exact sq_ok _ _ _)
theorem take_core (w : World) (mean : ExcName → Option Value) (mg mb : Str → Option Value) (src : Addr) (a b : Int) (ta tb : Tok) (n : Nat) (rest : List (Addr × Obj)) (top : Int) (t : Tok)
    (hs : SrcOk a b) (ht : 0 < top) (htt : top < 1000) (hne : ∀ p ∈ rest, p.1 ≠ src) :
    TellsX w mean mg mb 71 5 40 ((src, listOf #[.int a ta, .int b tb] n) :: rest) [.ref src, .int top t]
      (fun r led' => ∃ S' new, ((∃ d td, r = .int d td ∧ 0 ≤ d ∧ d < top) ∧ SrcIs S' ∧ new = []) ∧ (∀ q ∈ (src, listOf #[.int a ta, .int b tb] n) :: rest, ∀ p ∈ new, q.1 < p.1) ∧ led' = (src, S') :: (new ++ rest)) := by
  w_top off
  unfold TellsX; k_fill
  intro dp un gd cn cs fa ccd cl outer A₀ base h₀ L m s Q E B F X N T hk hd hu hret
  refine wpAny_call ?_
  k_dflt ktr_enter
  k_steps
  · refine' hret _ _ _ _ ?e1 ?e2 ?e3
    case e1 => k_asm
    case e2 => k_asm
    case e3 => exact ⟨_, [], ⟨⟨_, _, rfl, fmod_lo _ ht, fmod_hi _ ht⟩, ⟨_, _, _, _, _, ⟨fdiv_lo hs.1 ht, hs.2⟩, rfl⟩, rfl⟩, fun _ _ _ h => (nomatch h), rfl⟩
  · refine' hret _ _ _ _ ?f1 ?f2 ?f3
    case f1 => k_asm
    case f2 => k_asm
    case f3 => exact ⟨_, [], ⟨⟨_, _, rfl, fmod_lo _ ht, fmod_hi _ ht⟩, ⟨_, _, _, _, _, src_turn _ _ hs.1, rfl⟩, rfl⟩, fun _ _ _ h => (nomatch h), rfl⟩
end
/-- _law_take: a number below top; the pool is a pool again -/
theorem take_spec {w : World} {mean : ExcName → Option Value} {mg mb : Str → Option Value} {src : Addr} {S : Obj} {led : List (Addr × Obj)} {g : Obj → List (Addr × Obj)} {top : Int} {t : Tok}
    (U : UpdF src S led g) (hs : SrcIs S) (ht : 0 < top) (htt : top < 1000) :
    TellsX w mean mg mb 71 5 40 led [.ref src, .int top t]
      (fun r led' => ∃ S', (∃ d td, r = .int d td ∧ 0 ≤ d ∧ d < top) ∧ SrcIs S' ∧ led' = g S') := by
  obtain ⟨a, b, ta, tb, n, hs, rfl⟩ := hs
  refine (tells_src U fun rest hne _ _ => take_core w mean mg mb src a b ta tb n rest top t hs ht htt hne).mono (fun _ h => h) ?_
  rintro r l ⟨S', new, ⟨hr, hS, rfl⟩, _, rfl⟩
  exact ⟨g S', fun _ h => h, S', hr, hS, rfl⟩
end Mine
end

section
local macro_rules | `(tactic| k_mem) => `(tactic| first | assumption | exact List.Mem.head _ | (refine' List.Mem.tail _ ?_; k_mem))
local macro_rules | `(tactic| k_all) => `(tactic| first | assumption | exact ne_ofLt (by assumption))
local macro_rules | `(tactic| walk_at "call ref") => `(tactic| ((first | (with_reducible show wpAny _ _ (call (Value.ref 36) _) _ _ _) | (with_reducible show wpAny _ _ (call (Value.ref 50) _) _ _ _) | (with_reducible show wpAny _ _ (call (Value.ref 57) _) _ _ _) | (with_reducible show wpAny _ _ (call (Value.ref 71) _) _ _ _) | (with_reducible show wpAny _ _ (call (Value.ref 78) _) _ _ _) | (with_reducible show wpAny _ _ (call (Value.ref 85) _) _ _ _) | (with_reducible show wpAny _ _ (call (Value.ref 92) _) _ _ _) | (with_reducible show wpAny _ _ (call (Value.ref 99) _) _ _ _) | (with_reducible show wpAny _ _ (call (Value.ref 106) _) _ _ _) | (with_reducible show wpAny _ _ (call (Value.ref 111) _) _ _ _) | (with_reducible show wpAny _ _ (call (Value.ref 118) _) _ _ _) | (with_reducible show wpAny _ _ (call (Value.ref 123) _) _ _ _)); refine stop_elim ?_))
section
set_option maxRecDepth 100000
set_option maxHeartbeats 8000000
namespace Mine

section
local macro_rules | `(tactic| walk_at "call builtin:len") => `(tactic| (k_here; (with_reducible show wpAny _ _ (call (Value.builtin "len") [Value.ref _]) _ _ _); k_dflt (refine' len_led ?k1 ?k2 ?k3 ?_; (case k1 => k_asm); (case k2 => k_mem); (case k3 => omega); k_whole)))
local macro_rules | `(tactic| walk_at "subscriptTail") => `(tactic| (k_here; (with_reducible show wpAny _ _ (subscriptTail _ _ (Value.ref _) (Value.int _ _)) _ _ _); k_dflt (refine' item_led ?k1 ?k2 ?k3 ?k4 ?k5 ?_ ?k6; (case k1 => k_asm); (case k2 => k_mem); (case k3 => omega); (case k4 => omega); (case k5 => omega); (case k6 => with_unfolding_all rfl); k_whole); intro v' hv'))
theorem one_core (w : World) (mean : ExcName → Option Value) (mg mb : Str → Option Value) (src th : Addr) (S : Obj) (rest : List (Addr × Obj)) (vs : List Value) (k : Nat)
    (hs : SrcIs S) (hm : (th, listOf vs.toArray k) ∈ rest) (hv : 0 < vs.length) (hv' : vs.length < 1000) (hne : ∀ p ∈ rest, p.1 ≠ src) :
    TellsX w mean mg mb 78 8 80 ((src, S) :: rest) [.ref src, .ref th]
      (fun r led' => ∃ S' new, (r ∈ vs ∧ SrcIs S' ∧ new = []) ∧ (∀ q ∈ (src, S) :: rest, ∀ p ∈ new, q.1 < p.1) ∧ led' = (src, S') :: (new ++ rest)) := by
  w_top off
  unfold TellsX; k_fill
  intro dp un gd cn cs fa ccd cl outer A₀ base h₀ L m s Q E B F X N T hk hd hu hret
  refine wpAny_call ?_
  k_dflt ktr_enter
  (k_steps; repeat' (first | (show wpAny _ _ _ _ _ _; k_here; (with_reducible show wpAny _ _ (call (Value.ref 71) [Value.ref _, Value.int _ _]) _ _ _); k_dflt (refine' tellsX_use ?yk1 ?yk2 ?yk3 ?yk4 ?yk5 ?yk6 (take_spec ?yu ?ys ?yp ?yq) ?ykd ?yku ?_; (case yk1 => k_asm); (case yk2 => k_asm); (case yk3 => k_asm); (case yk4 => k_asm); (case yk5 => k_asm); (case yk6 => exact rfl); (case yu => k_updF); (case ys => assumption); (case yp => first | omega | decide); (case yq => first | omega | decide); (case ykd => ktr_room); (case yku => ktr_units)); intro r' l' h' tk' F' N' hp'; obtain ⟨S', ⟨d', td', hr', hd0', hd1'⟩, hS', hl'⟩ := hp'; subst hr'; subst hl'; (try dsimp only at N'); (try dsimp only); (try k_sweep); k_steps)))
  refine' hret _ _ _ _ ?e1 ?e2 ?e3
  case e1 => k_asm
  case e2 => k_asm
  case e3 => exact ⟨_, [], ⟨List.mem_of_getElem? (by assumption), by assumption, rfl⟩, fun _ _ _ h => (nomatch h), rfl⟩
end
/-- _law_one: one of the things -/
theorem one_spec {w : World} {mean : ExcName → Option Value} {mg mb : Str → Option Value} {src th : Addr} {S : Obj} {led : List (Addr × Obj)} {g : Obj → List (Addr × Obj)} {vs : List Value} {k : Nat}
    (U : UpdF src S led g) (hs : SrcIs S) (hm : (th, listOf vs.toArray k) ∈ led) (hne : th ≠ src) (hv : 0 < vs.length) (hv' : vs.length < 1000) :
    TellsX w mean mg mb 78 8 80 led [.ref src, .ref th] (fun r led' => ∃ S', r ∈ vs ∧ SrcIs S' ∧ led' = g S') := by
  refine (tells_src U fun rest hne' hin _ => one_core w mean mg mb src th S rest vs k hs (hin _ hm hne) hv hv' hne').mono (fun _ h => h) ?_
  rintro r l ⟨S', new, ⟨hr, hS, rfl⟩, _, rfl⟩
  exact ⟨g S', fun _ h => h, S', hr, hS, rfl⟩
end Mine
end

section
set_option maxRecDepth 100000
set_option maxHeartbeats 8000000
namespace Mine

noncomputable def isStr (cs : List (List Nat)) (v : Value) : Bool := match v with
  | .str x _ => cs.contains x.cps.toList
  | _ => false
theorem strs_of {vs : List Value} {r : Value} (cs : List (List Nat)) (h : vs.all (isStr cs) = true) (hr : r ∈ vs) : ∃ x t, r = .str x t ∧ x.cps.toList ∈ cs := by
  have := List.all_eq_true.mp h r hr
  cases r with
  | str x t => exact ⟨x, t, rfl, List.contains_iff_mem.mp this⟩
  | _ => cases this
theorem chars_of {vs : List Value} {r : Value} (cs : List Nat) (h : vs.all (isStr (cs.map fun c => [c])) = true) (hr : r ∈ vs) : ∃ c t, r = .str ⟨#[c]⟩ t ∧ c ∈ cs := by
  obtain ⟨x, t, rfl, hx⟩ := strs_of _ h hr
  obtain ⟨c, hc, he⟩ := List.mem_map.mp hx
  exact ⟨c, t, by rw [show x = ⟨#[c]⟩ from congrArg Str.mk (Array.toList_inj.mp he.symm)], hc⟩

theorem ofs_dash : Str.ofString "-" = ⟨#[45]⟩ := by decide +kernel
noncomputable def LowC (first : Bool) (c : Nat) : Prop := c ∈ [97, 99, 101, 33, 91, 42, 233] ∨ (first = false ∧ c = 94)
noncomputable def HighC (c : Nat) : Prop := c ∈ [97, 99, 100, 45, 94, 91, 233]
/-- an item's text and its two ends -/
noncomputable def ItemOk (b1 b2 : Bool) (T : List Nat) (lo hi : Nat) : Prop :=
  (T = [45] ∧ lo = 45 ∧ hi = 45 ∧ (b1 = true ∨ b2 = true)) ∨ (T = [lo, 45, hi] ∧ LowC b1 lo ∧ HighC hi) ∨ (T = [lo] ∧ hi = lo ∧ LowC b1 lo)
noncomputable abbrev tupOf (l : List Value) : Obj := { cls := .type "tuple", data := .seq l.toArray }
/-- what an item's call makes -/
inductive ItemNew (b1 b2 : Bool) (r : Value) (new : List (Addr × Obj)) : Prop
  | mk (q p : Addr) (x : Str) (t : Tok) (lo : Nat) (t1 : Tok) (hi : Nat) (t2 : Tok) (hr : r = .ref q) (hn : new = [(q, tupOf [.str x t, .ref p]), (p, tupOf [.str ⟨#[lo]⟩ t1, .str ⟨#[hi]⟩ t2])]) (hlt : p < q) (hit : ItemOk b1 b2 x.cps.toList lo hi)
theorem low_first {b1 : Bool} {c : Nat} (h : c ∈ [97, 99, 101, 33, 91, 42, 233]) : LowC b1 c := .inl h
theorem low_later {b1 : Bool} {c : Nat} (h : c ∈ [97, 99, 101, 33, 91, 42, 233, 94]) (hb : b1 = false) : LowC b1 c := by
  have k : (c == 94 || [97, 99, 101, 33, 91, 42, 233].contains c) = true :=
    List.all_eq_true.mp (by decide : [97, 99, 101, 33, 91, 42, 233, 94].all (fun c => c == 94 || [97, 99, 101, 33, 91, 42, 233].contains c) = true) c h
  rcases (Bool.or_eq_true _ _).mp k with e | e
  · exact .inr ⟨hb, beq_iff_eq.mp e⟩
  · exact .inl (List.contains_iff_mem.mp e)
theorem pick2 {h₀ h : Heap} {L : Addr} {a b s : Addr × Obj} {mid rest : List (Addr × Obj)} (N : News h₀ L h (a :: b :: (mid ++ s :: rest))) : News h₀ L h (s :: ([a, b] ++ rest)) := fun p hp => N p (by
  simp only [List.mem_cons, List.mem_append, List.not_mem_nil, or_false] at hp ⊢
  rcases hp with h | (h | h) | h <;> simp [h])
theorem lt2 {src a b : Addr} {S oa ob : Obj} {rest : List (Addr × Obj)} (h1 : src < a) (h2 : src < b) (h3 : AllLt a rest) (h4 : AllLt b rest) : ∀ q ∈ (src, S) :: rest, ∀ p ∈ [(a, oa), (b, ob)], q.1 < p.1 := by
  intro q hq p hp
  simp only [List.mem_cons, List.not_mem_nil, or_false] at hp
  rcases List.mem_cons.mp hq with rfl | hq
  · rcases hp with rfl | rfl <;> assumption
  · rcases hp with rfl | rfl
    · exact ktn_ltOf h3 q hq
    · exact ktn_ltOf h4 q hq

section
theorem item_core (w : World) (mean : ExcName → Option Value) (mg mb : Str → Option Value) (src : Addr) (S : Obj) (rest : List (Addr × Obj)) (b1 b2 : Bool)
    (hs : SrcIs S) (hne : ∀ p ∈ rest, p.1 ≠ src) :
    TellsX w mean mg mb 85 12 120 ((src, S) :: rest) [.ref src, .bool b1, .bool b2]
      (fun r led' => ∃ S' new, (ItemNew b1 b2 r new ∧ SrcIs S') ∧ (∀ q ∈ (src, S) :: rest, ∀ p ∈ new, q.1 < p.1) ∧ led' = (src, S') :: (new ++ rest)) := by
  w_top off
  unfold TellsX; k_fill
  intro dp un gd cn cs fa ccd cl outer A₀ base h₀ L m s Q E B F X N T hk hd hu hret
  refine wpAny_call ?_
  k_dflt ktr_enter
  (k_steps; repeat' (first | (show wpAny _ _ _ _ _ _; k_here; (with_reducible show wpAny _ _ (call (Value.ref 78) [Value.ref _, Value.ref _]) _ _ _); k_dflt (refine' tellsX_use ?yk1 ?yk2 ?yk3 ?yk4 ?yk5 ?yk6 (one_spec ?yu ?ys ?ym ?yn ?yp ?yq) ?ykd ?yku ?_; (case yk1 => k_asm); (case yk2 => k_asm); (case yk3 => k_asm); (case yk4 => k_asm); (case yk5 => k_asm); (case yk6 => exact rfl); (case yu => k_updF); (case ys => assumption); (case ym => k_mem); (case yn => k_ne); (case yp => exact Nat.succ_pos _); (case yq => exact Nat.le_of_ble_eq_true rfl); (case ykd => ktr_room); (case yku => ktr_units)); intro r' l' h' tk' F' N' hp'; obtain ⟨S', hr', hS', hl'⟩ := hp'; subst hl'; (try dsimp only at N'); (try dsimp only); (try k_sweep); (first | (have hc9 := chars_of [97, 99, 101, 33, 91, 42, 233] (by kernel_rfl!) hr'; obtain ⟨c', tc', hc', hcs'⟩ := hc9; clear hr'; subst hc') | (have hc9 := chars_of [97, 99, 101, 33, 91, 42, 233, 94] (by kernel_rfl!) hr'; obtain ⟨c', tc', hc', hcs'⟩ := hc9; clear hr'; subst hc') | (have hc9 := chars_of [97, 99, 100, 45, 94, 91, 233] (by kernel_rfl!) hr'; obtain ⟨c', tc', hc', hcs'⟩ := hc9; clear hr'; subst hc') | skip); k_steps) | (show wpAny _ _ _ _ _ _; k_here; (with_reducible show wpAny _ _ (call (Value.ref 71) [Value.ref _, Value.int _ _]) _ _ _); k_dflt (refine' tellsX_use ?yk1 ?yk2 ?yk3 ?yk4 ?yk5 ?yk6 (take_spec ?yu ?ys ?yp ?yq) ?ykd ?yku ?_; (case yk1 => k_asm); (case yk2 => k_asm); (case yk3 => k_asm); (case yk4 => k_asm); (case yk5 => k_asm); (case yk6 => exact rfl); (case yu => k_updF); (case ys => assumption); (case yp => first | omega | decide); (case yq => first | omega | decide); (case ykd => ktr_room); (case yku => ktr_units)); intro r' l' h' tk' F' N' hp'; obtain ⟨S', ⟨d', td', hr', hd0', hd1'⟩, hS', hl'⟩ := hp'; subst hr'; subst hl'; (try dsimp only at N'); (try dsimp only); (try k_sweep); k_steps)))
  all_goals (refine' hret _ _ _ _ ?e1 ?e2 ?e3; (case e1 => k_asm); (case e2 => first | exact pick2 (mid := [_, _, _, _]) (by k_asm) | exact pick2 (mid := [_, _, _]) (by k_asm)); (case e3 => (refine ⟨_, _, ⟨⟨_, _, _, _, _, _, _, _, rfl, (by first | (simp only [ofs_dash]; rfl) | rfl), ?_, ?_⟩, by assumption⟩, lt2 ?_ ?_ ?_ ?_, rfl⟩); (all_goals first
    | omega
    | (simp only [*]; done)
    | exact .inl ⟨rfl, rfl, rfl, by first | exact .inl (by assumption) | exact .inr (by assumption)⟩
    | exact .inr (.inr ⟨rfl, rfl, by first | exact low_first (by assumption) | exact low_later (by assumption) (by simp_all)⟩)
    | exact .inr (.inl ⟨rfl, (by first | exact low_first (by assumption) | exact low_later (by assumption) (by simp_all)), (by unfold HighC; assumption)⟩)
    | (trace_state; fail "left"))))
end
/-- _law_item: a text and its two ends -/
theorem item_spec {w : World} {mean : ExcName → Option Value} {mg mb : Str → Option Value} {src : Addr} {S : Obj} {led : List (Addr × Obj)} {g : Obj → List (Addr × Obj)} {b1 b2 : Bool} (U : UpdF src S led g) (hs : SrcIs S) :
    TellsX w mean mg mb 85 12 120 led [.ref src, .bool b1, .bool b2] (fun r led' => ∃ S' new, (ItemNew b1 b2 r new ∧ SrcIs S') ∧ (∀ q ∈ led, ∀ p ∈ new, q.1 < p.1) ∧ led' = new ++ g S') :=
  tells_src U fun rest hne' _ _ => item_core w mean mg mb src S rest b1 b2 hs hne'
end Mine
end

section
set_option maxRecDepth 100000
set_option maxHeartbeats 8000000
namespace Mine


section
variable {prog : Program} {w : World} {A : Around} {E : Value → Shared → Prop} {s : Shared} {env : Env} {h₀ : Heap} {x : Str} {body : List Stmt} {Q : Flow → Shared → Prop}

/-- what holds of the frame and the ledger between two turns -/
noncomputable def Mid {σ : Type} (led : σ → List (Addr × Obj)) (ps : σ → List (Str × Value)) (P : σ → Prop) (x : Str) (stored : List Str) (m₀ : Str → Option Value) (m : Str → Option Value) (nx : List (Addr × Obj)) : Prop :=
  ∃ c : σ, nx = led c ∧ P c ∧ (∀ p ∈ ps c, m p.1 = some p.2) ∧ (∀ z, z ≠ x → (∀ p ∈ ps c, z ≠ p.1) → stored.contains z = false → m z = m₀ z)

theorem range_inv {σ : Type} {r : Addr} {a₀ b₀ : Int} {t₀ u₀ v₀ : Tok} {n : Nat} {m₀ : Str → Option Value} {news : List (Addr × Obj)} (led : σ → List (Addr × Obj)) (ps : σ → List (Str × Value)) (P : Nat → σ → Prop) (stored : List Str) (c₀ : σ)
    (hh : A.handled = none) (hr : IsRange s.heap r a₀ b₀ 1 t₀ u₀ v₀) (hsmall : Builtin.Range.small a₀ b₀ 1 = true) (hn : Builtin.Range.rangeSize a₀ b₀ 1 = (n : Int)) (F : Fr h₀ env.locals s.heap m₀) (N : News h₀ env.locals s.heap news)
    (hs : ∀ p ∈ led c₀, p ∈ news) (hk : ∀ p ∈ ps c₀, m₀ p.1 = some p.2) (hp : P 0 c₀)
    (turn : ∀ i c (u : Str → Option Value) t h tk own, i < n → P i c → OwnOff own ((led c).map (·.1)) →
      Fr h₀ env.locals h (fun y => if y = x then some (.int (a₀ + (i : Int)) t) else kstB (fun z => if stored.contains z then u z else m₀ z) (ps c) y) → News h₀ env.locals h (led c ++ own) →
      wpAny (model prog w) A (execs body env) (InvPostG h₀ env.locals (Mid led ps (P (i + 1)) x stored m₀) own { s with heap := h, toks := tk } Q) E { s with heap := h, toks := tk })
    (done : ∀ c (u : Str → Option Value) h tk, P n c → Fr h₀ env.locals h (fun y => if y = x then u y else kstB (fun z => if stored.contains z then u z else m₀ z) (ps c) y) → News h₀ env.locals h (led c) → Q .next { s with heap := h, toks := tk }) :
    wpAny (model prog w) A (pyIter (.ref r)) (fun it s₂ => LoopAtV prog w A h₀ env x body Q E it s₂) E s := by
  refine wpAny_pyIter_range hr hsmall ?_
  have W : Walks prog w A s.heap.objs.size [s.heap.objs.size] [s.heap.objs.size] n (fun i v => i < n ∧ ∃ t, v = .int (a₀ + i * 1) t)
      (fun i h => IsRangeIter h s.heap.objs.size (a₀ + (i : Nat) * 1) ((n : Int) - (i : Nat)) 1) := (Walks.range hh _ a₀ 1 n).bound
  have N0 : News h₀ env.locals s.heap (led c₀) := fun p hp => N p (hs p hp)
  refine kdr_loop (news := led c₀) (fun i m nx => Mid led ps (P i) x stored m₀ m nx) W (fun _ h => h) (fun _ h => h) ?_ ?_ ?_ ?_ (by show IsRangeIter _ _ _ _ _; rw [hn]; simpa using Heap.get?_push_size _ rfl) (F.push _) (fun p hp => ⟨Heap.get?_push_of_some _ (N0 p hp).1, (N0 p hp).2⟩) ⟨c₀, rfl, hp, hk, fun _ _ _ _ => rfl⟩ ?_ ?_
  · intro i h hi b hb
    rw [List.mem_singleton.mp hb]
    exact ⟨_, hi⟩
  · intro hm
    exact absurd F.ns.lt ((List.mem_singleton.mp hm) ▸ Nat.lt_irrefl _)
  · intro b hb
    rw [List.mem_singleton.mp hb]
    exact next_is_new F
  · intro p hp hI
    exact absurd (Heap.lt_size (N0 p hp).1) ((List.mem_singleton.mp hI) ▸ Nat.lt_irrefl _)
  · rintro i v m₁ nx h tk own hi ⟨_, t, rfl⟩ hoff ⟨c, rfl, hp', h1, h2⟩ F₁ N₁
    have e1 : a₀ + (i : Int) * 1 = a₀ + (i : Int) := by omega
    rw [e1] at F₁
    exact turn i c m₁ t h tk own hi hp' hoff (kst_fr h1 h2 F₁) N₁
  · rintro m₁ nx h tk ⟨c, rfl, hp', h1, h2⟩ F₁ N₁
    exact done c m₁ h tk hp' (kst_frOut h1 h2 F₁) N₁

/-- the end of a turn -/
theorem mid_end {σ : Type} {led : σ → List (Addr × Obj)} {ps : σ → List (Str × Value)} {P : σ → Prop} {stored : List Str} {m₀ : Str → Option Value} (c : σ) {L : Addr} {m' : Str → Option Value} {own news' : List (Addr × Obj)} {s₁ : Shared} {h' : Heap} {tk : Nat}
    (F : Fr h₀ L h' m') (N : News h₀ L h' news') (hn : ∀ p ∈ led c, p ∈ news') (ho : ∀ p ∈ own, p ∈ news') (hoff : OwnOff own ((led c).map (·.1))) (hp : P c) (hk : ∀ p ∈ ps c, m' p.1 = some p.2)
    (hr : ∀ z, z ≠ x → (∀ p ∈ ps c, z ≠ p.1) → stored.contains z = false → m' z = m₀ z) : InvEndG h₀ L (Mid led ps P x stored m₀) own s₁ { s₁ with heap := h', toks := tk } :=
  InvEndG.intro F N ⟨c, rfl, hp, hk, hr⟩ hoff hn ho

theorem off_step {a z : Str} {v : Option Value} {m m₀ : Str → Option Value} (h : z ≠ a) (hm : m z = m₀ z) : (fun y => if y = a then v else m y) z = m₀ z := by
  show (if z = a then v else m z) = m₀ z
  rw [if_neg h]; exact hm
theorem off_base {u m₀ : Str → Option Value} {stored : List Str} {ps : List (Str × Value)} {z : Str} (h2 : ∀ p ∈ ps, z ≠ p.1) (h3 : stored.contains z = false) :
    kstB (fun z => if stored.contains z then u z else m₀ z) ps z = m₀ z := by
  induction ps with
  | nil => show (if stored.contains z then u z else m₀ z) = m₀ z; rw [h3]; simp
  | cons p r ih =>
    show (if z = p.1 then some p.2 else kstB _ r z) = m₀ z
    rw [if_neg (h2 p (.head _))]
    exact ih fun q hq => h2 q (.tail _ hq)
theorem ne_stored {stored : List Str} {z a : Str} (h3 : stored.contains z = false) (hm : a ∈ stored) : z ≠ a := by
  rintro rfl
  rw [List.contains_iff_mem.mpr hm] at h3; cases h3
theorem ownOff_of {own l l' : List (Addr × Obj)} (h : OwnOff own (l.map (·.1))) (h' : ∀ q ∈ l', q.1 ∈ l.map (·.1) ∨ ∀ p ∈ own, p.1 ≠ q.1) : OwnOff own (l'.map (·.1)) := by
  intro p hp b hb
  obtain ⟨q, hq, rfl⟩ := List.mem_map.mp hb
  rcases h' q hq with h1 | h1
  · exact h p hp _ h1
  · exact h1 p hp
theorem off_of {own l : List (Addr × Obj)} (h : OwnOff own (l.map (·.1))) {q : Addr × Obj} (hq : q ∈ l) : ∀ p ∈ own, p.1 ≠ q.1 := fun p hp => h p hp _ (List.mem_map.mpr ⟨q, hq, rfl⟩)

theorem execs_append (pre r : List Stmt) : execs (pre ++ r) env = (execs pre env >>= fun f => match f with | .next => execs r env | f => pure f) := by
  induction pre with
  | nil => rfl
  | cons a l ih =>
    show execs (a :: (l ++ r)) env = _
    rw [PySem.execs_cons, PySem.execs_cons, bind_assoc]
    congr 1
    funext f
    cases f with
    | next => exact ih
    | brk => rfl
    | cont => rfl
    | ret v => rfl

/-- where a run of statements ends: the frame's named values, the ledger, what holds of them -/
noncomputable def CutAt {σ : Type} (h₀ : Heap) (L : Addr) (led : σ → List (Addr × Obj)) (ps : σ → List (Str × Value)) (P : σ → Prop) (s : Shared) (f : Flow) (s' : Shared) : Prop :=
  f = .next ∧ ∃ (c : σ) (h' : Heap) (tk : Nat) (m' : Str → Option Value) (news' : List (Addr × Obj)), s' = { s with heap := h', toks := tk } ∧ Fr h₀ L h' m' ∧ News h₀ L h' news' ∧ (∀ p ∈ led c, p ∈ news') ∧ (∀ p ∈ ps c, m' p.1 = some p.2) ∧ P c
theorem cut_end {σ : Type} {L : Addr} {led : σ → List (Addr × Obj)} {ps : σ → List (Str × Value)} {P : σ → Prop} (c : σ) {h' : Heap} {tk : Nat} {m' : Str → Option Value} {news' : List (Addr × Obj)}
    (F : Fr h₀ L h' m') (N : News h₀ L h' news') (hn : ∀ p ∈ led c, p ∈ news') (hk : ∀ p ∈ ps c, m' p.1 = some p.2) (hp : P c) : CutAt h₀ L led ps P s .next { s with heap := h', toks := tk } :=
  ⟨rfl, c, h', tk, m', news', rfl, F, N, hn, hk, hp⟩
theorem kstB_self {m : Str → Option Value} {ps : List (Str × Value)} (h : ∀ p ∈ ps, m p.1 = some p.2) : kstB m ps = m := funext fun _ => kstB_eq h fun _ => rfl
theorem cut {σ : Type} {L : Addr} {pre r : List Stmt} (led : σ → List (Addr × Obj)) (ps : σ → List (Str × Value)) (P : σ → Prop) {m₀ : Str → Option Value} (_F : Fr h₀ L s.heap m₀)
    (h1 : wpAny (model prog w) A (execs pre env) (CutAt h₀ L led ps P s) E s)
    (h2 : ∀ c h' tk m', P c → Fr h₀ L h' (kstB m' (ps c)) → News h₀ L h' (led c) → wpAny (model prog w) A (execs r env) Q E { s with heap := h', toks := tk }) :
    wpAny (model prog w) A (execs (pre ++ r) env) Q E s := by
  rw [execs_append]
  refine wpAny_bind (wpAny_mono h1 (fun f s' h => ?_) fun _ _ x => x)
  obtain ⟨rfl, c, h', tk, m', news', rfl, F, N, hn, hk, hp⟩ := h
  exact h2 c h' tk m' hp (by rw [kstB_self hk]; exact F) fun p hp => N p (hn p hp)
end
end Mine
end

section
local macro_rules | `(tactic| walk_at "exec For Name Call cons nil") => `(tactic| (k_here; (rename Fr _ _ _ _ => lF'); (with_unfolding_all refine' For_invVF lF' ?k1 ?k2 ?_; (case k1 => exact rfl); (case k2 => exact rfl); k_whole)))
local macro_rules | `(tactic| walk_at "call type:range") => `(tactic| ((rename Fr _ _ _ _ => F'); (rename News _ _ _ _ => N'); (with_unfolding_all refine range1_rows F' N' ?_; intro _ _ _ _ _ _ _ _ _)))
local macro_rules | `(tactic| walk_at "pyIter ref") => `(tactic| refine stop_elim ?_)
section
set_option maxRecDepth 100000
set_option maxHeartbeats 8000000
namespace Mine

noncomputable abbrev It := List Nat × Nat × Nat
noncomputable def itFlat (its : List It) : List Nat := its.flatMap (·.1)
noncomputable def itEnds (its : List It) : List (Nat × Nat) := its.map (·.2)
noncomputable def ItemsAt (many : Int) (its : List It) : Prop := ∀ (j : Nat) (it : It), its[j]? = some it → ItemOk ((0 + (j : Int)) == 0) ((0 + (j : Int)) == many - 1) it.1 it.2.1 it.2.2
noncomputable def pairDat (p : Nat × Nat) : Dat := .tuple [.str ⟨#[p.1]⟩, .str ⟨#[p.2]⟩]
noncomputable def preT (bt br : Bool) : List Nat := (if bt then [94] else []) ++ (if br then [93] else [])
noncomputable def preE (br : Bool) : List (Nat × Nat) := if br then [(93, 93)] else []
theorem ofs_hat : Str.ofString "^" = ⟨#[94]⟩ := by decide +kernel
theorem ofs_shut : Str.ofString "]" = ⟨#[93]⟩ := by decide +kernel
theorem ofs_hatshut : Str.ofString "^]" = ⟨#[94, 93]⟩ := by decide +kernel
theorem ofs_none : Str.ofString "" = ⟨#[]⟩ := by decide +kernel

structure L0 where
  S : Obj
  x : Str
  t : Tok
  rl : Addr
  vs : List Value
  kk : Nat
  many : Int
  tm : Tok
  bt : Bool
  br : Bool
  tl : List (Addr × Obj)
noncomputable def L0.led (src : Addr) (rest : List (Addr × Obj)) (c : L0) : List (Addr × Obj) := (src, c.S) :: (c.rl, listOf c.vs.toArray c.kk) :: (c.tl ++ rest)
noncomputable def L0.ps (src : Addr) (c : L0) : List (Str × Value) := [(Str.ofString "text", .str c.x c.t), (Str.ofString "ranges", .ref c.rl), (Str.ofString "many", .int c.many c.tm), (Str.ofString "is_turned", .bool c.bt), (Str.ofString "source", .ref src)]
noncomputable def L0.P (src : Addr) (rest : List (Addr × Obj)) (c : L0) : Prop :=
  SrcIs c.S ∧ c.x.cps.toList = preT c.bt c.br ∧ DatAll c.tl c.vs ((preE c.br).map pairDat) ∧ (0 ≤ c.many ∧ c.many ≤ 3 ∧ (c.br = true ∨ 0 < c.many)) ∧ @LT.lt Nat _ src c.rl ∧ AllLt c.rl rest ∧ (∀ p ∈ c.tl, @LT.lt Nat _ c.rl p.1)

structure L1 where
  S : Obj
  x : Str
  t : Tok
  vs : List Value
  kk : Nat
  tl : List (Addr × Obj)
  its : List It
noncomputable def L1.led (src rl : Addr) (rest : List (Addr × Obj)) (c : L1) : List (Addr × Obj) := (src, c.S) :: (rl, listOf c.vs.toArray c.kk) :: (c.tl ++ rest)
noncomputable def L1.ps (c : L1) : List (Str × Value) := [(Str.ofString "text", .str c.x c.t)]
noncomputable def L1.P (rl : Addr) (bt br : Bool) (many : Int) (i : Nat) (c : L1) : Prop :=
  SrcIs c.S ∧ c.x.cps.toList = preT bt br ++ itFlat c.its ∧ DatAll c.tl c.vs ((preE br ++ itEnds c.its).map pairDat) ∧ ItemsAt many c.its ∧ c.its.length = i ∧ (∀ p ∈ c.tl, @LT.lt Nat _ rl p.1)
theorem ItemOk.len {b1 b2 : Bool} {T : List Nat} {lo hi : Nat} (h : ItemOk b1 b2 T lo hi) : T.length ≤ 3 := by
  rcases h with ⟨h, _⟩ | ⟨h, _⟩ | ⟨h, _⟩ <;> rw [h] <;> simp
theorem ItemOk.lenS {b1 b2 : Bool} {x : Str} {lo hi : Nat} (h : ItemOk b1 b2 x.cps.toList lo hi) : x.length ≤ 3 := by
  have := h.len
  rw [Array.length_toList] at this
  exact this
theorem itFlat_len {many : Int} : ∀ {its : List It}, ItemsAt many its → (itFlat its).length ≤ 3 * its.length := by
  intro its h
  have key : ∀ l : List It, (∀ it ∈ l, it.1.length ≤ 3) → (itFlat l).length ≤ 3 * l.length := by
    intro l
    induction l with
    | nil => intro _; exact Nat.le_refl _
    | cons a r ih =>
      intro hl
      have h1 := hl a (.head _)
      have h2 := ih fun it hm => hl it (.tail _ hm)
      unfold itFlat at h2 ⊢
      rw [List.flatMap_cons, List.length_append, List.length_cons]
      omega
  refine key its fun it hm => ?_
  obtain ⟨j, hj, e⟩ := List.getElem_of_mem hm
  exact (h j it (by rw [← e]; simp [hj])).len
theorem L1.P.len {rl : Addr} {bt br : Bool} {many : Int} {i : Nat} {c : L1} (h : c.P rl bt br many i) : c.x.length ≤ 2 + 3 * i := by
  obtain ⟨_, hx, _, hi, hl, _⟩ := h
  have h1 := congrArg List.length hx
  rw [Array.length_toList, List.length_append] at h1
  have h2 := itFlat_len hi
  have h3 : (preT bt br).length ≤ 2 := by cases bt <;> cases br <;> decide
  show c.x.cps.size ≤ _
  omega
theorem ItemsAt.snoc {many : Int} {its : List It} {it : It} {i : Nat} (h : ItemsAt many its) (hl : its.length = i) (hi : ItemOk ((0 + (i : Int)) == 0) ((0 + (i : Int)) == many - 1) it.1 it.2.1 it.2.2) : ItemsAt many (its ++ [it]) := by
  intro j it' e
  by_cases hj : j < its.length
  · rw [List.getElem?_append_left hj] at e
    exact h j it' e
  · rw [List.getElem?_append_right (by omega)] at e
    have : j = i := by
      by_cases h0 : j - its.length = 0
      · omega
      · rw [List.getElem?_eq_none (by simp; omega)] at e; cases e
    subst this
    have h0 : j - its.length = 0 := by omega
    rw [h0] at e
    cases e
    exact hi

theorem itFlat_snoc (its : List It) (it : It) : itFlat (its ++ [it]) = itFlat its ++ it.1 := by simp [itFlat]
theorem itEnds_snoc (its : List It) (it : It) : itEnds (its ++ [it]) = itEnds its ++ [it.2] := by simp [itEnds]
theorem L1.P.step {rl : Addr} {bt br : Bool} {many : Int} {i : Nat} {c : L1} (h : c.P rl bt br many i) {S' : Obj} {x' : Str} {t' t1 t2 : Tok} {kk' : Nat} {p : Addr} {lo hi : Nat} (hS : SrcIs S')
    (hit : ItemOk ((0 + (i : Int)) == 0) ((0 + (i : Int)) == many - 1) x'.cps.toList lo hi) (hp : @LT.lt Nat _ rl p) :
    (L1.mk S' (c.x ++ x') t' (c.vs ++ [.ref p]) kk' ((p, tupOf [.str ⟨#[lo]⟩ t1, .str ⟨#[hi]⟩ t2]) :: c.tl) (c.its ++ [(x'.cps.toList, lo, hi)])).P rl bt br many (i + 1) := by
  obtain ⟨_, hx, hD, hI, hL, ht⟩ := h
  refine ⟨hS, ?_, ?_, hI.snoc hL hit, by simp [hL], ?_⟩
  · show (c.x ++ x').cps.toList = _
    rw [Str.cps_append, Array.toList_append, hx, itFlat_snoc, List.append_assoc]
  · show DatAll _ (c.vs ++ [.ref p]) _
    rw [itEnds_snoc, ← List.append_assoc, List.map_append]
    exact (hD.mono fun _ h => .tail _ h).append (.one (.tuple (.head _) (.cons (.str _ _) (.cons (.str _ _) .nil))))
  · intro q hq
    rcases List.mem_cons.mp hq with rfl | hq
    · exact hp
    · exact ht q hq
theorem pick_lot {h₀ h : Heap} {L : Addr} {a b s r : Addr × Obj} {tl rest : List (Addr × Obj)} (N : News h₀ L h (a :: b :: s :: r :: (tl ++ rest))) : News h₀ L h (s :: ((a :: b :: r :: tl) ++ rest)) := fun p hp => N p (by
  simp only [List.mem_cons, List.mem_append] at hp ⊢
  rcases hp with h | ((h | h | h | h) | h) <;> simp [h])
/-- a lot's text behind its [, its ranges, whether it is turned -/
noncomputable def LotOk (T : List Nat) (prs : List (Nat × Nat)) (bt : Bool) : Prop :=
  ∃ (br : Bool) (its : List It), T = preT bt br ++ itFlat its ++ [93] ∧ prs = preE br ++ itEnds its ∧ ItemsAt its.length its ∧ its.length ≤ 3 ∧ (br = true ∨ 0 < its.length)
inductive LotNew (r : Value) (new : List (Addr × Obj)) : Prop
  | mk (q p : Addr) (x : Str) (t t0 : Tok) (rl : Addr) (bt : Bool) (vs : List Value) (kk : Nat) (tl : List (Addr × Obj)) (prs : List (Nat × Nat)) (hr : r = .ref q) (hn : new = (q, tupOf [.str x t, .ref p]) :: (p, tupOf [.int 3 t0, .none, .ref rl, .bool bt]) :: (rl, listOf vs.toArray kk) :: tl)
      (hD : DatAll tl vs (prs.map pairDat)) (hok : LotOk x.cps.toList prs bt)
theorem L1.P.lot {rl : Addr} {bt br : Bool} {many : Int} {i : Nat} {c : L1} (h : c.P rl bt br many i) (hi : (i : Int) = many) (hm : 0 ≤ many ∧ many ≤ 3 ∧ (br = true ∨ 0 < many)) :
    LotOk (c.x ++ Str.ofString "]").cps.toList (preE br ++ itEnds c.its) bt := by
  obtain ⟨_, hx, _, hI, hL, _⟩ := h
  subst hL
  refine ⟨br, c.its, ?_, rfl, by rw [hi]; exact hI, by omega, hm.2.2.imp id (by omega)⟩
  rw [Str.cps_append, Array.toList_append, hx, ofs_shut]

section
theorem lot_core (w : World) (mean : ExcName → Option Value) (mg mb : Str → Option Value) (src : Addr) (S : Obj) (rest : List (Addr × Obj))
    (hs : SrcIs S) (hne : ∀ p ∈ rest, p.1 ≠ src) :
    TellsX w mean mg mb 92 20 200 ((src, S) :: rest) [.ref src]
      (fun r led' => ∃ S' new, (LotNew r new ∧ SrcIs S') ∧ (∀ q ∈ (src, S) :: rest, ∀ p ∈ new, q.1 < p.1) ∧ led' = (src, S') :: (new ++ rest)) := by
  w_top off
  unfold TellsX; k_fill
  intro dp un gd cn cs fa ccd cl outer A₀ base h₀ L m s Q E B F X N T hk hd hu hret
  refine wpAny_call ?_
  k_dflt ktr_enter
  refine cut (pre := [_, _, _, _, _]) (L0.led src rest) (L0.ps src) (L0.P src rest) (by assumption) ?_ ?_
  · (((try k_fold); k_steps); repeat' (first | (show wpAny _ _ _ _ _ _; k_here; (with_reducible show wpAny _ _ (call (Value.ref 85) [Value.ref _, Value.bool _, Value.bool _]) _ _ _); k_dflt (refine' tellsX_use ?yk1 ?yk2 ?yk3 ?yk4 ?yk5 ?yk6 (item_spec ?yu ?ys) ?ykd ?yku ?_; (case yk1 => k_asm); (case yk2 => k_asm); (case yk3 => k_asm); (case yk4 => k_asm); (case yk5 => k_asm); (case yk6 => exact rfl); (case yu => k_updF); (case ys => assumption); (case ykd => ktr_room); (case yku => ktr_units)); intro r' l' h' tk' F' N' hp'; obtain ⟨S', new', ⟨⟨q', p', x', t', lo', t1', hi', t2', hr', hn', hpq', hit'⟩, hS'⟩, hfr', hl'⟩ := hp'; subst hr'; subst hn'; subst hl'; (have hA' := allLt_of (fun z hz => hfr' z hz _ (List.Mem.head _))); (have hB' := allLt_of (fun z hz => hfr' z hz _ (List.Mem.tail _ (List.Mem.head _)))); (simp only [AllLt, and_true] at hA' hB'); clear hfr'; (have hxl' := ItemOk.lenS hit'); (try simp only [List.cons_append, List.nil_append] at N'); (try dsimp only); (try k_sweep); k_steps) | (show wpAny _ _ _ _ _ _; k_here; (with_reducible show wpAny _ _ (call (Value.ref 71) [Value.ref _, Value.int _ _]) _ _ _); k_dflt (refine' tellsX_use ?yk1 ?yk2 ?yk3 ?yk4 ?yk5 ?yk6 (take_spec ?yu ?ys ?yp ?yq) ?ykd ?yku ?_; (case yk1 => k_asm); (case yk2 => k_asm); (case yk3 => k_asm); (case yk4 => k_asm); (case yk5 => k_asm); (case yk6 => exact rfl); (case yu => k_updF); (case ys => assumption); (case yp => first | omega | decide); (case yq => first | omega | decide); (case ykd => ktr_room); (case yku => ktr_units)); intro r' l' h' tk' F' N' hp'; obtain ⟨S', ⟨d', td', hr', hd0', hd1'⟩, hS', hl'⟩ := hp'; subst hr'; subst hl'; (try dsimp only at N'); (try dsimp only); (try k_sweep); k_steps)))
    all_goals first
      | (exfalso; omega)
      | (refine' cut_end ⟨_, _, _, _, [.ref _], 1, _, _, _, true, [(_, tupOf [.str (Str.ofString "]") _, .str (Str.ofString "]") _])]⟩ ?e1 ?e2 ?e3 ?e4 ?e5; (case e1 => k_asm); (case e2 => k_asm); (case e4 => (unfold L0.ps; dsimp only; kst_all)); (case e3 => (unfold L0.led; dsimp only; k_dflt (refine List.forall_mem_cons.mpr ⟨by k_memK, List.forall_mem_cons.mpr ⟨by k_memK, List.forall_mem_cons.mpr ⟨by k_memK, fun p hp => ?_⟩⟩⟩); (repeat' (first | exact hp | refine List.Mem.tail _ ?_)))); (case e5 => (unfold L0.P; dsimp only; refine ⟨by assumption, by simp [preT, ofs_hat, ofs_shut, ofs_hatshut, ofs_none, *], ?_, ⟨by omega, by omega, .inl rfl⟩, ltN (by omega), by simp only [*], ?_⟩; (exact .cons (by simp only [ofs_shut]; exact .tuple (.head _) (.cons (.str _ _) (.cons (.str _ _) .nil))) .nil); (refine List.forall_mem_cons.mpr ⟨ltN (by omega), List.forall_mem_nil _⟩))))
      | (refine' cut_end ⟨_, _, _, _, [], 0, _, _, _, false, []⟩ ?e1 ?e2 ?e3 ?e4 ?e5; (case e1 => k_asm); (case e2 => k_asm); (case e4 => (unfold L0.ps; dsimp only; kst_all)); (case e3 => (unfold L0.led; dsimp only; k_dflt (refine List.forall_mem_cons.mpr ⟨by k_memK, List.forall_mem_cons.mpr ⟨by k_memK, fun p hp => ?_⟩⟩); (repeat' (first | exact hp | refine List.Mem.tail _ ?_)))); (case e5 => (unfold L0.P; dsimp only; refine ⟨by assumption, by simp [preT, ofs_hat, ofs_shut, ofs_hatshut, ofs_none, *], .nil, ⟨by omega, by omega, .inr (by omega)⟩, ltN (by omega), by simp only [*], List.forall_mem_nil _⟩)))
  · intro c h9 tk9 m9 hP9 F9 N9
    obtain ⟨S1, x1, t1, rl, vs1, kk1, many, tm, bt, br, tl1⟩ := c
    obtain ⟨hS1, hx1, hD1, hmany, hlt, hal, htl⟩ := hP9
    dsimp only [L0.led, L0.ps] at *
    (((try k_fold); k_steps); repeat' (first | (show wpAny _ _ _ _ _ _; k_here; (with_reducible show wpAny _ _ (call (Value.ref 85) [Value.ref _, Value.bool _, Value.bool _]) _ _ _); k_dflt (refine' tellsX_use ?yk1 ?yk2 ?yk3 ?yk4 ?yk5 ?yk6 (item_spec ?yu ?ys) ?ykd ?yku ?_; (case yk1 => k_asm); (case yk2 => k_asm); (case yk3 => k_asm); (case yk4 => k_asm); (case yk5 => k_asm); (case yk6 => exact rfl); (case yu => k_updF); (case ys => assumption); (case ykd => ktr_room); (case yku => ktr_units)); intro r' l' h' tk' F' N' hp'; obtain ⟨S', new', ⟨⟨q', p', x', t', lo', t1', hi', t2', hr', hn', hpq', hit'⟩, hS'⟩, hfr', hl'⟩ := hp'; subst hr'; subst hn'; subst hl'; (have hA' := allLt_of (fun z hz => hfr' z hz _ (List.Mem.head _))); (have hB' := allLt_of (fun z hz => hfr' z hz _ (List.Mem.tail _ (List.Mem.head _)))); (simp only [AllLt, and_true] at hA' hB'); clear hfr'; (have hxl' := ItemOk.lenS hit'); (try simp only [List.cons_append, List.nil_append] at N'); (try dsimp only); (try k_sweep); k_steps) | (show wpAny _ _ _ _ _ _; k_here; (with_reducible show wpAny _ _ (call (Value.ref 71) [Value.ref _, Value.int _ _]) _ _ _); k_dflt (refine' tellsX_use ?yk1 ?yk2 ?yk3 ?yk4 ?yk5 ?yk6 (take_spec ?yu ?ys ?yp ?yq) ?ykd ?yku ?_; (case yk1 => k_asm); (case yk2 => k_asm); (case yk3 => k_asm); (case yk4 => k_asm); (case yk5 => k_asm); (case yk6 => exact rfl); (case yu => k_updF); (case ys => assumption); (case yp => first | omega | decide); (case yq => first | omega | decide); (case ykd => ktr_room); (case yku => ktr_units)); intro r' l' h' tk' F' N' hp'; obtain ⟨S', ⟨d', td', hr', hd0', hd1'⟩, hS', hl'⟩ := hp'; subst hr'; subst hl'; (try dsimp only at N'); (try dsimp only); (try k_sweep); k_steps)))
    show wpAny _ _ _ _ _ _
    refine range_inv (σ := L1) (L1.led src rl rest) L1.ps (L1.P rl bt br many) [Str.ofString "written", Str.ofString "ends"] ⟨S1, x1, t1, vs1, kk1, tl1, []⟩ rfl (by assumption) (small_one (by decide) (by decide) (by omega) (by omega)) (rangeSize_nat _ _) (by k_asm) (by k_asm) (fun _ h => h) ?_ ?_ ?_ ?_
    · dsimp only [L1.ps]; k_dflt kst_all
    · exact ⟨hS1, by simpa [itFlat] using hx1, by simpa [itEnds] using hD1, fun j it e => by simp at e, rfl, htl⟩
    · intro i c u tt h2 tk2 own hi hP hoff F2 N2
      have hlen := hP.len
      have hPk := hP
      obtain ⟨S2, x2, t2, vs2, kk2, tl2, its⟩ := c
      obtain ⟨hS2, hx2, hD2, hI2, hL2, htl2⟩ := hP
      dsimp only [L1.led, L1.ps] at *
      simp only [List.cons_append] at N2
      obtain ⟨R, hR⟩ : ∃ R, R = tl2 ++ rest ++ own := ⟨_, rfl⟩
      rw [← hR] at N2
      have hR1 : ∀ p ∈ R, p.1 ≠ src := by
        intro p hp
        rw [hR] at hp
        rcases List.mem_append.mp hp with hp | hp
        · rcases List.mem_append.mp hp with hp | hp
          · have := htl2 p hp; exact neN (by omega)
          · exact hne p hp
        · exact off_of hoff (.head _) p hp
      have hR2 : ∀ p ∈ R, p.1 ≠ rl := by
        intro p hp
        rw [hR] at hp
        rcases List.mem_append.mp hp with hp | hp
        · rcases List.mem_append.mp hp with hp | hp
          · have := htl2 p hp; exact neN (by omega)
          · exact ne_ofLt hal p hp
        · exact off_of hoff (.tail _ (.head _)) p hp
      have hi3 : i < 3 := by omega
      have hvs : vs2.length ≤ 4 := by
        have := hD2.length
        rw [List.length_map, List.length_append] at this
        have h1 : (preE br).length ≤ 1 := by cases br <;> decide
        have h2 : (itEnds its).length = its.length := List.length_map ..
        omega
      (((try k_fold); k_steps); repeat' (first | (show wpAny _ _ _ _ _ _; k_here; (with_reducible show wpAny _ _ (call (Value.ref 85) [Value.ref _, Value.bool _, Value.bool _]) _ _ _); k_dflt (refine' tellsX_use ?yk1 ?yk2 ?yk3 ?yk4 ?yk5 ?yk6 (item_spec ?yu ?ys) ?ykd ?yku ?_; (case yk1 => k_asm); (case yk2 => k_asm); (case yk3 => k_asm); (case yk4 => k_asm); (case yk5 => k_asm); (case yk6 => exact rfl); (case yu => k_updF); (case ys => assumption); (case ykd => ktr_room); (case yku => ktr_units)); intro r' l' h' tk' F' N' hp'; obtain ⟨S', new', ⟨⟨q', p', x', t', lo', t1', hi', t2', hr', hn', hpq', hit'⟩, hS'⟩, hfr', hl'⟩ := hp'; subst hr'; subst hn'; subst hl'; (have hA' := allLt_of (fun z hz => hfr' z hz _ (List.Mem.head _))); (have hB' := allLt_of (fun z hz => hfr' z hz _ (List.Mem.tail _ (List.Mem.head _)))); (simp only [AllLt, and_true] at hA' hB'); clear hfr'; (have hxl' := ItemOk.lenS hit'); (try simp only [List.cons_append, List.nil_append] at N'); (try dsimp only); (try k_sweep); k_steps) | (show wpAny _ _ _ _ _ _; k_here; (with_reducible show wpAny _ _ (call (Value.ref 71) [Value.ref _, Value.int _ _]) _ _ _); k_dflt (refine' tellsX_use ?yk1 ?yk2 ?yk3 ?yk4 ?yk5 ?yk6 (take_spec ?yu ?ys ?yp ?yq) ?ykd ?yku ?_; (case yk1 => k_asm); (case yk2 => k_asm); (case yk3 => k_asm); (case yk4 => k_asm); (case yk5 => k_asm); (case yk6 => exact rfl); (case yu => k_updF); (case ys => assumption); (case yp => first | omega | decide); (case yq => first | omega | decide); (case ykd => ktr_room); (case yku => ktr_units)); intro r' l' h' tk' F' N' hp'; obtain ⟨S', ⟨d', td', hr', hd0', hd1'⟩, hS', hl'⟩ := hp'; subst hr'; subst hl'; (try dsimp only at N'); (try dsimp only); (try k_sweep); k_steps)))
      rename News _ _ _ _ => N7
      rename Fr _ _ _ _ => F7
      rename ItemOk _ _ _ _ _ => hit
      rename SrcIs _ => hS7
      rename (_ < _ ∧ _ < _ ∧ AllLt _ R) => hB7
      simp only [List.push_toArray] at N7
      refine' mid_end _ F7 N7 ?e1 ?e2 ?e3 (hPk.step hS7 hit hB7.2.1) ?e4 ?e5
      case e1 =>
        dsimp only [L1.led, List.cons_append]
        refine List.forall_mem_cons.mpr ⟨by k_memK, List.forall_mem_cons.mpr ⟨by k_memK, List.forall_mem_cons.mpr ⟨by k_memK, fun p hp => ?_⟩⟩⟩
        have : p ∈ R := by rw [hR]; exact List.mem_append.mpr (.inl hp)
        repeat' (first | exact this | refine List.Mem.tail _ ?_)
      case e2 =>
        intro p hp
        have : p ∈ R := by rw [hR]; exact List.mem_append.mpr (.inr hp)
        repeat' (first | exact this | refine List.Mem.tail _ ?_)
      case e3 =>
        refine ownOff_of hoff ?_
        dsimp only [L1.led, List.cons_append]
        refine List.forall_mem_cons.mpr ⟨.inl (.head _), List.forall_mem_cons.mpr ⟨.inl (.tail _ (.head _)), List.forall_mem_cons.mpr ⟨.inr fun p hp => ?_, fun q hq => .inl (List.mem_map.mpr ⟨q, .tail _ (.tail _ hq), rfl⟩)⟩⟩⟩
        exact ne_ofLt hB7.2.2 p (by rw [hR]; exact List.mem_append.mpr (.inr hp))
      case e4 => dsimp only [L1.ps]; k_dflt kst_all
      case e5 =>
        intro z h1 h2 h3
        have h4 : z ≠ Str.ofString "text" := h2 (Str.ofString "text", _) (List.Mem.head _)
        refine (if_neg h4).trans ?_
        refine (if_neg (ne_stored h3 (.tail _ (.head _)))).trans ?_
        refine (if_neg (ne_stored h3 (.head _))).trans ?_
        refine (if_neg h1).trans ?_
        exact off_base (List.forall_mem_cons.mpr ⟨h4, List.forall_mem_nil _⟩) h3
    · intro c u h3 tk3 hP F3 N3
      have hlen := hP.len
      have hlot := hP.lot (by omega) hmany
      obtain ⟨S3, x3, t3, vs3, kk3, tl3, its⟩ := c
      obtain ⟨hS3, hx3, hD3, hI3, hL3, htl3⟩ := hP
      dsimp only [L1.led, L1.ps] at *
      (((try k_fold); k_steps); repeat' (first | (show wpAny _ _ _ _ _ _; k_here; (with_reducible show wpAny _ _ (call (Value.ref 85) [Value.ref _, Value.bool _, Value.bool _]) _ _ _); k_dflt (refine' tellsX_use ?yk1 ?yk2 ?yk3 ?yk4 ?yk5 ?yk6 (item_spec ?yu ?ys) ?ykd ?yku ?_; (case yk1 => k_asm); (case yk2 => k_asm); (case yk3 => k_asm); (case yk4 => k_asm); (case yk5 => k_asm); (case yk6 => exact rfl); (case yu => k_updF); (case ys => assumption); (case ykd => ktr_room); (case yku => ktr_units)); intro r' l' h' tk' F' N' hp'; obtain ⟨S', new', ⟨⟨q', p', x', t', lo', t1', hi', t2', hr', hn', hpq', hit'⟩, hS'⟩, hfr', hl'⟩ := hp'; subst hr'; subst hn'; subst hl'; (have hA' := allLt_of (fun z hz => hfr' z hz _ (List.Mem.head _))); (have hB' := allLt_of (fun z hz => hfr' z hz _ (List.Mem.tail _ (List.Mem.head _)))); (simp only [AllLt, and_true] at hA' hB'); clear hfr'; (have hxl' := ItemOk.lenS hit'); (try simp only [List.cons_append, List.nil_append] at N'); (try dsimp only); (try k_sweep); k_steps) | (show wpAny _ _ _ _ _ _; k_here; (with_reducible show wpAny _ _ (call (Value.ref 71) [Value.ref _, Value.int _ _]) _ _ _); k_dflt (refine' tellsX_use ?yk1 ?yk2 ?yk3 ?yk4 ?yk5 ?yk6 (take_spec ?yu ?ys ?yp ?yq) ?ykd ?yku ?_; (case yk1 => k_asm); (case yk2 => k_asm); (case yk3 => k_asm); (case yk4 => k_asm); (case yk5 => k_asm); (case yk6 => exact rfl); (case yu => k_updF); (case ys => assumption); (case yp => first | omega | decide); (case yq => first | omega | decide); (case ykd => ktr_room); (case yku => ktr_units)); intro r' l' h' tk' F' N' hp'; obtain ⟨S', ⟨d', td', hr', hd0', hd1'⟩, hS', hl'⟩ := hp'; subst hr'; subst hl'; (try dsimp only at N'); (try dsimp only); (try k_sweep); k_steps)))
      rename (_ < _ ∧ @LT.lt Nat _ src _ ∧ _) => hA
      rename (@LT.lt Nat _ src _ ∧ _) => hB
      refine' hret _ _ _ _ ?e1 ?e2 ?e3
      case e1 => k_asm
      case e2 => exact pick_lot (by k_asm)
      case e3 =>
        refine ⟨_, _, ⟨⟨_, _, _, _, _, _, _, _, _, _, _, rfl, rfl, hD3, hlot⟩, hS3⟩, ?_, rfl⟩
        have key : ∀ d : Nat, src < d → AllLt d rest → ∀ q ∈ (src, S) :: rest, @LT.lt Nat _ q.1 d := fun d h1 h2 q hq => by
          rcases List.mem_cons.mp hq with rfl | hq
          · exact h1
          · exact ktn_ltOf h2 q hq
        intro q hq
        refine List.forall_mem_cons.mpr ⟨key _ hA.2.1 (allLt_of fun p hp => ktn_ltOf hA.2.2.2 p (List.mem_append.mpr (.inr hp))) q hq, List.forall_mem_cons.mpr ⟨key _ hB.1 (allLt_of fun p hp => ktn_ltOf hB.2.2 p (List.mem_append.mpr (.inr hp))) q hq, List.forall_mem_cons.mpr ⟨key _ hlt hal q hq, fun p hp => ?_⟩⟩⟩
        have h1 := key _ hlt hal q hq
        have h2 := htl3 p hp
        exact ltN (Nat.lt_trans h1 h2)
end
theorem lot_spec {w : World} {mean : ExcName → Option Value} {mg mb : Str → Option Value} {src : Addr} {S : Obj} {led : List (Addr × Obj)} {g : Obj → List (Addr × Obj)} (U : UpdF src S led g) (hs : SrcIs S) :
    TellsX w mean mg mb 92 20 200 led [.ref src] (fun r led' => ∃ S' new, (LotNew r new ∧ SrcIs S') ∧ (∀ q ∈ led, ∀ p ∈ new, q.1 < p.1) ∧ led' = new ++ g S') :=
  tells_src U fun rest hne' _ _ => lot_core w mean mg mb src S rest hs hne'
end Mine
end

section
set_option maxRecDepth 100000
set_option maxHeartbeats 8000000
namespace Mine

theorem tn1 {i : Int} (h : 0 ≤ i) : (i + 1).toNat = i.toNat + 1 := Int.toNat_add_nat h 1
theorem tn2 {i : Int} (h : 0 ≤ i) : (i + 2).toNat = i.toNat + 1 + 1 := Int.toNat_add_nat h 2
theorem tn3 {i : Int} (h : 0 ≤ i) : (i + 3).toNat = i.toNat + 1 + 1 + 1 := Int.toNat_add_nat h 3
theorem tsub {a b : Int} (h : b ≤ a) (n : Nat) : (a + (n : Int) - b).toNat = (a - b).toNat + n := by
  rw [show a + (n : Int) - b = (a - b) + n by omega]
  exact Int.toNat_add_nat (Int.sub_nonneg_of_le h) n
theorem tnn {i : Int} (h : 0 ≤ i) (n : Nat) : (i + 1 + (n : Int)).toNat = i.toNat + 1 + n := by
  rw [Int.toNat_add_nat (Int.le_trans h (Int.le_add_of_nonneg_right (by decide))), tn1 h]

/-- behind a first sign: a minus and a last sign that is no ] -/
noncomputable def isRange (r : List Nat) : Bool := r.head? == some 45 && r.tail.any (fun _ => true) && r.tail.head? != some 93
/-- from behind a [ (and ^, and a first ]): the ranges up to the ], and how many signs stand ahead of it; the number: how many signs to pass over -/
noncomputable def scanG : List Nat → Nat → Option (List (Nat × Nat) × Nat)
  | [], _ => none
  | _ :: r, k + 1 => scanG r k
  | c :: r, 0 =>
    if c = 93 then some ([], 0) else
    if isRange r = true then (scanG r 2).map fun q => ((c, r.tail.headD 0) :: q.1, q.2 + 3) else (scanG r 0).map fun q => ((c, c) :: q.1, q.2 + 1)
noncomputable def scan (l : List Nat) : Option (List (Nat × Nat) × Nat) := scanG l 0

theorem scan_nil : scan [] = none := rfl
theorem scan_cons (c : Nat) (r : List Nat) : scan (c :: r) =
    if c = 93 then some ([], 0) else
    if isRange r = true then (scanG r 2).map fun q => ((c, r.tail.headD 0) :: q.1, q.2 + 3) else (scan r).map fun q => ((c, c) :: q.1, q.2 + 1) := rfl
theorem scan_shut (r : List Nat) : scan (93 :: r) = some ([], 0) := (scan_cons 93 r).trans (if_pos rfl)
theorem scan_range {c e : Nat} {r : List Nat} (hc : c ≠ 93) (he : e ≠ 93) : scan (c :: 45 :: e :: r) = (scan r).map fun q => ((c, e) :: q.1, q.2 + 3) := by
  have h : isRange (45 :: e :: r) = true := by
    show (some e != some 93) = true
    exact bne_iff_ne.mpr fun h => he (Option.some.inj h)
  rw [scan_cons, if_neg hc, if_pos h]
  rfl
theorem scan_one {c : Nat} {r : List Nat} (hc : c ≠ 93) (h : ∀ e r', r = 45 :: e :: r' → e = 93) : scan (c :: r) = (scan r).map fun q => ((c, c) :: q.1, q.2 + 1) := by
  rw [scan_cons, if_neg hc]
  refine if_neg ?_
  intro q
  unfold isRange at q
  simp only [Bool.and_eq_true] at q
  obtain ⟨⟨q1, q2⟩, q3⟩ := q
  cases r with
  | nil => cases q1
  | cons d r =>
    cases r with
    | nil => cases q2
    | cons e r =>
      have hd : d = 45 := by
        have := beq_iff_eq.mp q1
        injection this
      subst hd
      rw [h e r rfl] at q3
      cases q3

/-- the ^ ahead, the first ] -/
noncomputable def hat (l : List Nat) : Bool := l.head? == some 94
noncomputable def k1 (l : List Nat) : Nat := if hat l then 1 else 0
noncomputable def shut (l : List Nat) : Bool := (l.drop (k1 l)).head? == some 93
noncomputable def k2 (l : List Nat) : Nat := if shut l then 1 else 0
noncomputable def lotParse (l : List Nat) : Option (List (Nat × Nat) × Nat) := (scan (l.drop (k1 l + k2 l))).map fun q => (preE (shut l) ++ q.1, k1 l + k2 l + q.2 + 1)

theorem item_code {x : Str} {i : Int} (h0 : 0 ≤ i) (h1 : i < x.length) : ∃ c, x.cps.toList.drop i.toNat = c :: x.cps.toList.drop (i.toNat + 1) ∧ Txt.item x i = ⟨#[c]⟩ := by
  have hl : i.toNat < x.cps.toList.length := by
    rw [Array.length_toList]; show i.toNat < x.length; omega
  refine ⟨x.cps.toList[i.toNat], List.drop_eq_getElem_cons hl, ?_⟩
  rw [item_meets ⟨h0, h1⟩]
  congr 2
  rw [Array.length_toList] at hl
  simp [Array.getD, hl]
theorem str_one {c d : Nat} : ((⟨#[c]⟩ : Str) == ⟨#[d]⟩) = true ↔ c = d := by
  rw [beq_iff_eq]
  constructor
  · intro h; injection h with h; injection h with h; injection h
  · rintro rfl; rfl
theorem head_lt {x : Str} {i : Int} {d : Nat} (h0 : 0 ≤ i) (h1 : i < x.length) : ((x.cps.toList.drop i.toNat).head? == some d) = (Txt.item x i == ⟨#[d]⟩) := by
  obtain ⟨c, hd, hi⟩ := item_code h0 h1
  rw [hd, hi, Bool.eq_iff_iff, str_one]
  simp
theorem head_ge {x : Str} {i : Int} {d : Nat} (h0 : 0 ≤ i) (h1 : ¬ i < x.length) : ((x.cps.toList.drop i.toNat).head? == some d) = false := by
  have : x.cps.toList.drop i.toNat = [] := List.drop_eq_nil_of_le (by rw [Array.length_toList]; show x.length ≤ _; omega)
  rw [this]; rfl
section
variable {x : Str} {at0 : Int} {l : List Nat} (hl : l = x.cps.toList.drop at0.toNat) (h0 : 0 ≤ at0)
include hl h0
theorem hat_lt (h : at0 < x.length) : hat l = (Txt.item x at0 == Str.ofString "^") := by
  rw [ofs_hat, hl]; exact head_lt h0 h
theorem hat_ge (h : ¬ at0 < x.length) : hat l = false := by rw [hl]; exact head_ge h0 h
theorem shut0_lt (hk : k1 l = 0) (h : at0 < x.length) : shut l = (Txt.item x at0 == Str.ofString "]") := by
  unfold shut
  rw [hk, List.drop_zero, ofs_shut, hl]; exact head_lt h0 h
theorem shut0_ge (hk : k1 l = 0) (h : ¬ at0 < x.length) : shut l = false := by
  unfold shut
  rw [hk, List.drop_zero, hl]; exact head_ge h0 h
theorem shut1_lt (hk : k1 l = 1) (h : at0 + 1 < x.length) : shut l = (Txt.item x (at0 + 1) == Str.ofString "]") := by
  unfold shut
  rw [hk, ofs_shut, hl, List.drop_drop, ← tn1 h0]; exact head_lt (by omega) h
theorem shut1_ge (hk : k1 l = 1) (h : ¬ at0 + 1 < x.length) : shut l = false := by
  unfold shut
  rw [hk, hl, List.drop_drop, ← tn1 h0]; exact head_ge (by omega) h
end
theorem k1_of {l : List Nat} {b : Bool} (h : hat l = b) : k1 l = if b then 1 else 0 := by unfold k1; rw [h]
theorem k2_of {l : List Nat} {b : Bool} (h : shut l = b) : k2 l = if b then 1 else 0 := by unfold k2; rw [h]
theorem ne_tf {a b : Str} (h : (a != b) = true) : (a == b) = false := by unfold bne at h; simpa using h
theorem ne_ft {a b : Str} (h : (a != b) = false) : (a == b) = true := by unfold bne at h; simpa using h
theorem item_is {x : Str} {i : Int} {c : Nat} {y : Str} {d : Nat} {b : Bool} (hc : Txt.item x i = ⟨#[c]⟩) (hy : y = ⟨#[d]⟩) (h : (Txt.item x i == y) = b) : (c == d) = b := by
  rw [hc, hy] at h
  rw [← h, Bool.eq_iff_iff, str_one]
  simp
theorem step_range {x : Str} {i : Int} (h0 : 0 ≤ i) (h : i + 2 < x.length) (n1 : (Txt.item x i == Str.ofString "]") = false) (n2 : (Txt.item x (i + 1) == Str.ofString "-") = true) (n3 : (Txt.item x (i + 2) == Str.ofString "]") = false) :
    ∃ c e, Txt.item x i = ⟨#[c]⟩ ∧ Txt.item x (i + 2) = ⟨#[e]⟩ ∧ scan (x.cps.toList.drop i.toNat) = (scan (x.cps.toList.drop (i + 3).toNat)).map fun q => ((c, e) :: q.1, q.2 + 3) := by
  have h1 : i + 1 < x.length := Int.lt_trans (Int.add_lt_add_left (by decide) i) h
  have h3 : i < x.length := Int.lt_trans (Int.lt_add_of_pos_right i (by decide)) h1
  have p1 : 0 ≤ i + 1 := Int.le_trans h0 (Int.le_add_of_nonneg_right (by decide))
  have p2 : 0 ≤ i + 2 := Int.le_trans h0 (Int.le_add_of_nonneg_right (by decide))
  obtain ⟨c, hd, hc⟩ := item_code h0 h3
  obtain ⟨d, hd2, hc2⟩ := item_code p1 h1
  obtain ⟨e, hd3, hc3⟩ := item_code p2 h
  have e1 := item_is hc ofs_shut n1
  have e2 := item_is hc2 ofs_dash n2
  have e3 := item_is hc3 ofs_shut n3
  simp only [beq_eq_false_iff_ne, ne_eq, beq_iff_eq] at e1 e2 e3
  subst e2
  refine ⟨c, e, hc, hc3, ?_⟩
  rw [tn1 h0] at hd2
  rw [tn2 h0] at hd3
  rw [hd, hd2, hd3, tn3 h0]
  exact scan_range e1 e3
theorem step_one {x : Str} {i : Int} (h0 : 0 ≤ i) (h : i < x.length) (n1 : (Txt.item x i == Str.ofString "]") = false)
    (n2 : ¬ (i + 2 < x.length) ∨ (Txt.item x (i + 1) == Str.ofString "-") = false ∨ (Txt.item x (i + 2) == Str.ofString "]") = true) :
    ∃ c, Txt.item x i = ⟨#[c]⟩ ∧ scan (x.cps.toList.drop i.toNat) = (scan (x.cps.toList.drop (i + 1).toNat)).map fun q => ((c, c) :: q.1, q.2 + 1) := by
  obtain ⟨c, hd, hc⟩ := item_code h0 h
  have e1 := item_is hc ofs_shut n1
  simp only [beq_eq_false_iff_ne, ne_eq] at e1
  refine ⟨c, hc, ?_⟩
  rw [hd, tn1 h0]
  refine scan_one e1 fun e r' hr => ?_
  have hlen : x.cps.toList.length = x.length := Array.length_toList
  have hl := congrArg List.length hr
  rw [List.length_drop, hlen, List.length_cons, List.length_cons] at hl
  have h2 : i + 2 < x.length := by clear n1 n2 hd hc e1 hr; omega
  clear hl hlen
  have h1 : i + 1 < x.length := Int.lt_trans (Int.add_lt_add_left (by decide) i) h2
  have p1 : 0 ≤ i + 1 := Int.le_trans h0 (Int.le_add_of_nonneg_right (by decide))
  have p2 : 0 ≤ i + 2 := Int.le_trans h0 (Int.le_add_of_nonneg_right (by decide))
  obtain ⟨d, hd2, hc2⟩ := item_code p1 h1
  obtain ⟨e', hd3, hc3⟩ := item_code p2 h2
  rw [tn1 h0] at hd2
  rw [tn2 h0] at hd3
  rw [hd2, hd3] at hr
  injection hr with q1 q2
  injection q2 with q2 q3
  subst q1 q2
  rcases n2 with n2 | n2 | n2
  · exact absurd h2 n2
  · have := item_is hc2 ofs_dash n2
    simp at this
  · have := item_is hc3 ofs_shut n2
    simpa using this
theorem scan_end {x : Str} {i : Int} (h0 : 0 ≤ i) (h : ¬ i < x.length) : scan (x.cps.toList.drop i.toNat) = none := by
  rw [List.drop_eq_nil_of_le (by rw [Array.length_toList]; show x.length ≤ _; omega), scan_nil]
theorem scan_at_shut {x : Str} {i : Int} (h0 : 0 ≤ i) (h : i < x.length) (n1 : (Txt.item x i == Str.ofString "]") = true) : scan (x.cps.toList.drop i.toNat) = some ([], 0) := by
  obtain ⟨c, hd, hc⟩ := item_code h0 h
  have e1 := item_is hc ofs_shut n1
  simp only [beq_iff_eq] at e1
  rw [hd, e1, scan_shut]
end Mine
end

section
local macro_rules | `(tactic| k_room) => `(tactic| ktr_room)
section
set_option maxRecDepth 100000
set_option maxHeartbeats 8000000
namespace Mine

structure A0 where
  at1 : Int
  ta : Tok
  rl : Addr
  vs : List Value
  kk : Nat
  tl : List (Addr × Obj)
noncomputable def A0.led (rest : List (Addr × Obj)) (c : A0) : List (Addr × Obj) := (c.rl, listOf c.vs.toArray c.kk) :: (c.tl ++ rest)
noncomputable def A0.ps (x : Str) (tx : Tok) (l : List Nat) (c : A0) : List (Str × Value) := [(Str.ofString "at", .int c.at1 c.ta), (Str.ofString "ranges", .ref c.rl), (Str.ofString "negated", .bool (hat l)), (Str.ofString "pattern", .str x tx)]
noncomputable def A0.P (rest : List (Addr × Obj)) (at0 : Int) (len : Nat) (l : List Nat) (c : A0) : Prop :=
  c.at1 = at0 + (k1 l : Int) + (k2 l : Int) ∧ c.at1 ≤ len ∧ DatAll c.tl c.vs ((preE (shut l)).map pairDat) ∧ (∀ p ∈ rest, @LT.lt Nat _ p.1 c.rl) ∧ (∀ p ∈ c.tl, @LT.lt Nat _ c.rl p.1)

structure A1 where
  at1 : Int
  ta : Tok
  vs : List Value
  kk : Nat
  tl : List (Addr × Obj)
  done : List (Nat × Nat)
noncomputable def A1.led (rest : List (Addr × Obj)) (rl : Addr) (c : A1) : List (Addr × Obj) := (rl, listOf c.vs.toArray c.kk) :: (c.tl ++ rest)
noncomputable def A1.ps (c : A1) : List (Str × Value) := [(Str.ofString "at", .int c.at1 c.ta)]
noncomputable def A1.P (x : Str) (rl : Addr) (at9 : Int) (l : List Nat) (c : A1) : Prop :=
  at9 ≤ c.at1 ∧ c.at1 ≤ x.length ∧ DatAll c.tl c.vs ((preE (shut l) ++ c.done).map pairDat) ∧
    scan (x.cps.toList.drop at9.toNat) = (scan (x.cps.toList.drop c.at1.toNat)).map (fun q => (c.done ++ q.1, (c.at1 - at9).toNat + q.2)) ∧ (∀ p ∈ c.tl, @LT.lt Nat _ rl p.1) ∧ c.done.length ≤ (c.at1 - at9).toNat

theorem A1.P.step3 {x : Str} {rl : Addr} {at9 : Int} {l : List Nat} {c : A1} (h : c.P x rl at9 l) {c1 e1 : Nat} (hs : scan (x.cps.toList.drop c.at1.toNat) = (scan (x.cps.toList.drop (c.at1 + 3).toNat)).map fun q => ((c1, e1) :: q.1, q.2 + 3))
    (hle : c.at1 + 3 ≤ x.length) {p : Addr} {t' t1 t2 : Tok} {kk' : Nat} (hp : @LT.lt Nat _ rl p) :
    (A1.mk (c.at1 + 3) t' (c.vs ++ [.ref p]) kk' ((p, tupOf [.str ⟨#[c1]⟩ t1, .str ⟨#[e1]⟩ t2]) :: c.tl) (c.done ++ [(c1, e1)])).P x rl at9 l := by
  obtain ⟨ha, hl, hD, hsc, ht, hd⟩ := h
  refine ⟨show at9 ≤ c.at1 + 3 from Int.le_trans ha (Int.le_add_of_nonneg_right (by decide)), hle, ?_, ?_, ?_, ?_⟩
  · show DatAll _ (c.vs ++ [.ref p]) _
    rw [← List.append_assoc, List.map_append]
    exact (hD.mono fun _ h => .tail _ h).append (.one (.tuple (.head _) (.cons (.str _ _) (.cons (.str _ _) .nil))))
  · rw [hsc, hs, Option.map_map]
    congr 1
    funext q
    simp only [Function.comp, List.append_assoc, List.cons_append, List.nil_append, Prod.mk.injEq, true_and]
    rw [show (c.at1 + 3 - at9).toNat = (c.at1 - at9).toNat + 3 from tsub ha 3, Nat.add_assoc, Nat.add_comm 3]
  · intro q hq
    rcases List.mem_cons.mp hq with rfl | hq
    · exact hp
    · exact ht q hq
  · show (c.done ++ [(c1, e1)]).length ≤ (c.at1 + 3 - at9).toNat
    rw [show (c.at1 + 3 - at9).toNat = (c.at1 - at9).toNat + 3 from tsub ha 3, List.length_append, List.length_singleton]
    exact Nat.add_le_add hd (by decide)
theorem A1.P.step1 {x : Str} {rl : Addr} {at9 : Int} {l : List Nat} {c : A1} (h : c.P x rl at9 l) {c1 : Nat} (hs : scan (x.cps.toList.drop c.at1.toNat) = (scan (x.cps.toList.drop (c.at1 + 1).toNat)).map fun q => ((c1, c1) :: q.1, q.2 + 1))
    (hle : c.at1 + 1 ≤ x.length) {p : Addr} {t' t1 t2 : Tok} {kk' : Nat} (hp : @LT.lt Nat _ rl p) :
    (A1.mk (c.at1 + 1) t' (c.vs ++ [.ref p]) kk' ((p, tupOf [.str ⟨#[c1]⟩ t1, .str ⟨#[c1]⟩ t2]) :: c.tl) (c.done ++ [(c1, c1)])).P x rl at9 l := by
  obtain ⟨ha, hl, hD, hsc, ht, hd⟩ := h
  refine ⟨show at9 ≤ c.at1 + 1 from Int.le_trans ha (Int.le_add_of_nonneg_right (by decide)), hle, ?_, ?_, ?_, ?_⟩
  · show DatAll _ (c.vs ++ [.ref p]) _
    rw [← List.append_assoc, List.map_append]
    exact (hD.mono fun _ h => .tail _ h).append (.one (.tuple (.head _) (.cons (.str _ _) (.cons (.str _ _) .nil))))
  · rw [hsc, hs, Option.map_map]
    congr 1
    funext q
    simp only [Function.comp, List.append_assoc, List.cons_append, List.nil_append, Prod.mk.injEq, true_and]
    rw [show (c.at1 + 1 - at9).toNat = (c.at1 - at9).toNat + 1 from tsub ha 1, Nat.add_assoc, Nat.add_comm 1]
  · intro q hq
    rcases List.mem_cons.mp hq with rfl | hq
    · exact hp
    · exact ht q hq
  · show (c.done ++ [(c1, c1)]).length ≤ (c.at1 + 1 - at9).toNat
    rw [show (c.at1 + 1 - at9).toNat = (c.at1 - at9).toNat + 1 from tsub ha 1, List.length_append, List.length_singleton]
    exact Nat.add_le_add hd (by decide)
noncomputable abbrev partDict (w : World) (k1 k2 k3 k4 : Tok) (kind sign ranges neg : Value) : Obj :=
  dictOf [⟨PyData.keyHash w.params (Str.ofString "kind"), .str (Str.ofString "kind") k1, kind⟩, ⟨PyData.keyHash w.params (Str.ofString "sign"), .str (Str.ofString "sign") k2, sign⟩,
    ⟨PyData.keyHash w.params (Str.ofString "ranges"), .str (Str.ofString "ranges") k3, ranges⟩, ⟨PyData.keyHash w.params (Str.ofString "negated"), .str (Str.ofString "negated") k4, neg⟩] 4
/-- what lot_at gives back -/
inductive LotAtPost (w : World) (at0 : Int) (l : List Nat) (rest : List (Addr × Obj)) (r : Value) (led' : List (Addr × Obj)) : Prop
  | none (h : lotParse l = .none) (hr : r = .none) (hl : led' = rest)
  | some (prs : List (Nat × Nat)) (k : Nat) (q : Addr) (t : Tok) (xx d : Addr) (k1 k2 k3 k4 : Tok) (rl : Addr) (vs : List Value) (kk : Nat) (tl new : List (Addr × Obj)) (h : lotParse l = .some (prs, k)) (hr : r = .ref q) (hD : DatAll tl vs (prs.map pairDat))
      (hn : new = (q, tupOf [.ref xx, .int (at0 + ((k : Nat) : Int)) t]) :: (xx, instObj 39 d) :: (d, partDict w k1 k2 k3 k4 (.int 3 195) .none (.ref rl) (.bool (hat l))) :: (rl, listOf vs.toArray kk) :: tl) (hl : led' = new ++ rest) (hlt : ∀ z ∈ rest, ∀ p ∈ new, z.1 < p.1)
theorem lotParse_none {x : Str} {at0 at9 at2 : Int} {l : List Nat} {done : List (Nat × Nat)} {n : Nat} (hl : l = x.cps.toList.drop at0.toNat) (h0 : 0 ≤ at0) (ha9 : at9 = at0 + (k1 l : Int) + (k2 l : Int))
    (hs : scan (x.cps.toList.drop at9.toNat) = (scan (x.cps.toList.drop at2.toNat)).map (fun q => (done ++ q.1, n + q.2))) (h2 : 0 ≤ at2) (h : ¬ at2 < x.length) : lotParse l = none := by
  unfold lotParse
  have e : l.drop (k1 l + k2 l) = x.cps.toList.drop at9.toNat := by
    generalize k1 l = a at *; generalize k2 l = b at *
    rw [hl, List.drop_drop]; congr 1; omega
  rw [e, hs, scan_end h2 h]; rfl
theorem lotParse_some {x : Str} {at0 at9 at2 : Int} {l : List Nat} {done : List (Nat × Nat)} (hl : l = x.cps.toList.drop at0.toNat) (h0 : 0 ≤ at0) (ha9 : at9 = at0 + (k1 l : Int) + (k2 l : Int))
    (hs : scan (x.cps.toList.drop at9.toNat) = (scan (x.cps.toList.drop at2.toNat)).map (fun q => (done ++ q.1, (at2 - at9).toNat + q.2))) (h2 : 0 ≤ at2) (h : at2 < x.length) (hn : (Txt.item x at2 == Str.ofString "]") = true) :
    lotParse l = some (preE (shut l) ++ done, k1 l + k2 l + (at2 - at9).toNat + 1) := by
  unfold lotParse
  have e : l.drop (k1 l + k2 l) = x.cps.toList.drop at9.toNat := by
    generalize k1 l = a at *; generalize k2 l = b at *
    rw [hl, List.drop_drop]; congr 1; omega
  rw [e, hs, scan_at_shut h2 h hn]; simp
theorem lt_of_all {rl p : Nat} {R : List (Addr × Obj)} (h : rl < p ∧ AllLt p R) : @LT.lt Nat _ rl p := h.1

section
local macro_rules | `(tactic| walk_at "execs cons") => `(tactic| ((with_reducible show wpAny _ _ (execs (Stmt.Expr _ _ :: _) _) _ _ _); refine wpAny_execs_cons ?_))
local macro_rules | `(tactic| walk_at "exec While BoolOp") => `(tactic| refine stop_elim ?_)
theorem lotat_core (w : World) (mean : ExcName → Option Value) (mg mb : Str → Option Value) (rest : List (Addr × Obj)) (x : Str) (tx : Tok) (at0 : Int) (ta : Tok)
    (hx : x.length ≤ 1000) (h0 : 0 ≤ at0) (h1 : at0 ≤ x.length) (l : List Nat) (hl : l = x.cps.toList.drop at0.toNat) :
    TellsX w mean mg mb 50 20 200 rest [.str x tx, .int at0 ta]
      (LotAtPost w at0 l rest) := by
  w_top off
  unfold TellsX; k_fill
  intro dp un gd cn cs fa ccd cl outer A₀ base h₀ L m s Q E B F X N T hk hd hu hret
  refine wpAny_call ?_
  k_dflt ktr_enter
  refine cut (pre := [_, _, _, _]) (A0.led rest) (A0.ps x tx l) (A0.P rest at0 x.length l) (by assumption) ?_ ?_
  · ((try k_fold); k_steps)
    all_goals (
      first
        | (have hh : hat l = true := (hat_lt hl h0 (by assumption)).trans (by assumption))
        | (have hh : hat l = false := (hat_lt hl h0 (by assumption)).trans (by assumption))
        | (have hh : hat l = false := hat_ge hl h0 (by assumption))
      have hk1 := k1_of hh
      simp only [if_true, Bool.false_eq_true, if_false] at hk1
      first
        | (have hh2 : shut l = true := (shut1_lt hl h0 hk1 (by assumption)).trans (by assumption))
        | (have hh2 : shut l = true := (shut0_lt hl h0 hk1 (by assumption)).trans (by assumption))
        | (have hh2 : shut l = false := (shut1_lt hl h0 hk1 (by assumption)).trans (by assumption))
        | (have hh2 : shut l = false := (shut0_lt hl h0 hk1 (by assumption)).trans (by assumption))
        | (have hh2 : shut l = false := shut1_ge hl h0 hk1 (by assumption))
        | (have hh2 : shut l = false := shut0_ge hl h0 hk1 (by assumption))
      have hk2 := k2_of hh2
      simp only [if_true, Bool.false_eq_true, if_false] at hk2)
    all_goals first
      | (refine' cut_end ⟨_, _, _, [.ref _], 1, [(_, tupOf [.str (Str.ofString "]") _, .str (Str.ofString "]") _])]⟩ ?e1 ?e2 ?e3 ?e4 ?e5; (case e1 => k_asm); (case e2 => k_asm); (case e4 => (unfold A0.ps; dsimp only; rw [hh]; kst_all)); (case e3 => (unfold A0.led; dsimp only; k_dflt (refine List.forall_mem_cons.mpr ⟨by k_memK, List.forall_mem_cons.mpr ⟨by k_memK, fun p hp => ?_⟩⟩); (repeat' (first | exact hp | refine List.Mem.tail _ ?_)))); (case e5 => (unfold A0.P; dsimp only; refine ⟨by omega, by omega, ?_, by assumption, ?_⟩; (rw [hh2]; exact .cons (by simp only [ofs_shut]; exact .tuple (.head _) (.cons (.str _ _) (.cons (.str _ _) .nil))) .nil); (refine List.forall_mem_cons.mpr ⟨ltN (by omega), List.forall_mem_nil _⟩))))
      | (refine' cut_end ⟨_, _, _, [], 0, []⟩ ?e1 ?e2 ?e3 ?e4 ?e5; (case e1 => k_asm); (case e2 => k_asm); (case e4 => (unfold A0.ps; dsimp only; rw [hh]; kst_all)); (case e3 => (unfold A0.led; dsimp only; k_dflt (refine List.forall_mem_cons.mpr ⟨by k_memK, fun p hp => ?_⟩); (repeat' (first | exact hp | refine List.Mem.tail _ ?_)))); (case e5 => (unfold A0.P; dsimp only; refine ⟨by omega, by omega, by rw [hh2]; exact .nil, by assumption, List.forall_mem_nil _⟩)))
  · intro c h9 tk9 m9 hP9 F9 N9
    obtain ⟨at9, t9, rl, vs1, kk1, tl1⟩ := c
    obtain ⟨ha9, hl9, hD9, hr9, ht9⟩ := hP9
    dsimp only [A0.led, A0.ps] at *
    ((try k_fold); k_steps)
    show wpAny _ _ _ _ _ _
    refine ksw_while (σ := A1) (A1.led rest rl) A1.ps (fun _ => True) [Str.ofString "low"] (A1.P x rl at9 l) (fun c => (x.length - c.at1).toNat) ⟨at9, t9, vs1, kk1, tl1, []⟩ F9 N9 trivial ?_ ?_ ?_
    · dsimp only [A1.ps]; k_dflt kst_all
    · exact ⟨Int.le_refl _, hl9, by simpa using hD9, by simp, ht9, by simp⟩
    · intro c u h2 tk2 _ hP F2 N2
      have hPk := hP
      obtain ⟨at2, t2, vs2, kk2, tl2, done⟩ := c
      obtain ⟨ha2, hl2, hD2, hs2, ht2, hd2⟩ := hP
      dsimp only [A1.led, A1.ps] at *
      obtain ⟨R, hR⟩ : ∃ R, R = tl2 ++ rest := ⟨_, rfl⟩
      rw [← hR] at N2
      have hR2 : ∀ p ∈ R, p.1 ≠ rl := by
        intro p hp
        rw [hR] at hp
        rcases List.mem_append.mp hp with hp | hp
        · have := ht2 p hp; exact neN (by omega)
        · have := hr9 p hp; exact neN (by omega)
      have hvs : vs2.length ≤ 1001 := by
        have := hD2.length
        rw [List.length_map, List.length_append] at this
        have h1 : (preE (shut l)).length ≤ 1 := by cases shut l <;> decide
        omega
      have ha0 : 0 ≤ at2 := by omega
      ((try k_fold); k_steps)
      · rename News _ _ _ _ => N7
        rename Fr _ _ _ _ => F7
        rename (_ < _ ∧ AllLt _ R) => hB7
        obtain ⟨c1, e1, hc1, he1, hsc⟩ := step_range ha0 (by assumption) (ne_tf (by assumption)) (by assumption) (ne_tf (by assumption))
        simp only [List.push_toArray, hc1, he1] at N7
        refine' ksw_end _ F7 N7 ?e1 trivial ?e2 ?e3 (hPk.step3 hsc ?e5 hB7.1) ?e4
        case e1 =>
          dsimp only [A1.led, List.cons_append]
          refine List.forall_mem_cons.mpr ⟨by k_memK, List.forall_mem_cons.mpr ⟨by k_memK, fun p hp => ?_⟩⟩
          have : p ∈ R := by rw [hR]; exact hp
          repeat' (first | exact this | refine List.Mem.tail _ ?_)
        case e2 => dsimp only [A1.ps]; k_dflt kst_all
        case e3 =>
          intro z h2 h3
          have h4 : z ≠ Str.ofString "at" := h2 (Str.ofString "at", _) (List.Mem.head _)
          repeat (first | refine (if_neg h4).trans ?_ | refine (if_neg (ne_stored h3 (List.Mem.head _))).trans ?_)
          exact off_base (fun _ h => (nomatch h)) h3
        case e4 => dsimp only; omega
        case e5 => dsimp only; omega
      iterate 3 (
        rename News _ _ _ _ => N7
        rename Fr _ _ _ _ => F7
        rename (_ < _ ∧ AllLt _ R) => hB7
        obtain ⟨c1, hc1, hsc⟩ := step_one ha0 (by assumption) (ne_tf (by assumption)) (by first | exact .inl (by assumption) | exact .inr (.inl (by assumption)) | exact .inr (.inr (ne_ft (by assumption))))
        simp only [List.push_toArray, hc1] at N7
        refine' ksw_end _ F7 N7 ?f1 trivial ?f2 ?f3 (hPk.step1 hsc ?f5 hB7.1) ?f4
        (case f1 =>
          dsimp only [A1.led, List.cons_append]
          refine List.forall_mem_cons.mpr ⟨by k_memK, List.forall_mem_cons.mpr ⟨by k_memK, fun p hp => ?_⟩⟩
          have : p ∈ R := by rw [hR]; exact hp
          repeat' (first | exact this | refine List.Mem.tail _ ?_))
        (case f2 => dsimp only [A1.ps]; k_dflt kst_all)
        (case f3 =>
          intro z h2 h3
          have h4 : z ≠ Str.ofString "at" := h2 (Str.ofString "at", _) (List.Mem.head _)
          repeat (first | refine (if_neg h4).trans ?_ | refine (if_neg (ne_stored h3 (List.Mem.head _))).trans ?_)
          exact off_base (fun _ h => (nomatch h)) h3)
        (case f4 => dsimp only; omega)
        (case f5 => dsimp only; omega))
      · have hlp := lotParse_some hl h0 ha9 hs2 ha0 (by assumption) (ne_ft (by assumption))
        have e9 : at2 + 1 = at0 + ((k1 l + k2 l + (at2 - at9).toNat + 1 : Nat) : Int) := by omega
        rename (_ < _ ∧ _ < _ ∧ _ < _ ∧ AllLt _ R) => hA7
        refine' hret _ _ _ _ ?g1 ?g2 ?g3
        case g1 => k_asm
        case g2 => k_asm
        case g3 =>
          subst hR
          rw [e9]
          refine .some _ _ _ _ _ _ _ _ _ _ _ _ _ _ _ hlp rfl hD2 rfl rfl ?_
          rename (@LT.lt Nat _ rl _ ∧ AllLt _ (tl2 ++ rest)) => hB7
          intro z hz
          have z1 := ktn_ltOf hA7.2.2.2 z (List.mem_append.mpr (.inr hz))
          have z2 := ktn_ltOf hB7.2 z (List.mem_append.mpr (.inr hz))
          have z3 := hr9 z hz
          refine List.forall_mem_cons.mpr ⟨ltN z1, List.forall_mem_cons.mpr ⟨ltN (Nat.lt_trans z2 (by assumption)), List.forall_mem_cons.mpr ⟨ltN z2, List.forall_mem_cons.mpr ⟨ltN z3, fun p hp => ltN (Nat.lt_trans z3 (ht2 p hp))⟩⟩⟩⟩
      · refine' hret _ _ _ _ ?g4 ?g5 ?g6
        case g4 => k_asm
        case g5 => exact kst_newsOf (by k_asm) (l' := rest) (fun p hp => by rw [hR]; exact .tail _ (List.mem_append.mpr (.inr hp)))
        case g6 => exact .none (lotParse_none hl h0 ha9 hs2 ha0 (by assumption)) rfl rfl
end
end Mine
end

section
set_option maxRecDepth 100000
set_option maxHeartbeats 8000000
namespace Mine

inductive Row where
  | any
  | one
  | sign (c : Nat)
  | lot (prs : List (Nat × Nat)) (neg : Bool)

/-- the parts of a text; the number: how many signs to pass over -/
noncomputable def gparseG : List Nat → Nat → Option (List Row)
  | [], _ => some []
  | _ :: r, k + 1 => gparseG r k
  | c :: r, 0 =>
    if c = 42 then (gparseG r 0).map (.any :: ·)
    else if c = 63 then (gparseG r 0).map (.one :: ·)
    else if c = 91 then
      match lotParse r with
      | none => none
      | some q => (gparseG r q.2).map (.lot q.1 (hat r) :: ·)
    else (gparseG r 0).map (.sign c :: ·)
noncomputable def gparse (l : List Nat) : Option (List Row) := gparseG l 0
theorem gparseG_drop : ∀ (r : List Nat) (k : Nat), gparseG r k = gparse (r.drop k)
  | [], 0 => rfl
  | [], _ + 1 => rfl
  | _ :: _, 0 => rfl
  | _ :: r, k + 1 => gparseG_drop r k

theorem gparse_nil : gparse [] = some [] := rfl
theorem gparse_cons (c : Nat) (r : List Nat) : gparse (c :: r) =
    if c = 42 then (gparse r).map (.any :: ·)
    else if c = 63 then (gparse r).map (.one :: ·)
    else if c = 91 then
      match lotParse r with
      | none => none
      | some q => (gparseG r q.2).map (.lot q.1 (hat r) :: ·)
    else (gparse r).map (.sign c :: ·) := rfl
theorem gparse_any (r : List Nat) : gparse (42 :: r) = (gparse r).map (.any :: ·) := (gparse_cons 42 r).trans (if_pos rfl)
theorem gparse_one (r : List Nat) : gparse (63 :: r) = (gparse r).map (.one :: ·) := (gparse_cons 63 r).trans ((if_neg (by decide)).trans (if_pos rfl))
theorem gparse_lot (r : List Nat) : gparse (91 :: r) = match lotParse r with | none => none | some q => (gparse (r.drop q.2)).map (.lot q.1 (hat r) :: ·) := by
  refine (gparse_cons 91 r).trans ((if_neg (by decide)).trans ((if_neg (by decide)).trans ((if_pos rfl).trans ?_)))
  cases lotParse r with
  | none => rfl
  | some q => exact congrArg (Option.map (.lot q.1 (hat r) :: ·)) (gparseG_drop r q.2)
theorem gparse_sign {c : Nat} {r : List Nat} (h1 : c ≠ 42) (h2 : c ≠ 63) (h3 : c ≠ 91) : gparse (c :: r) = (gparse r).map (.sign c :: ·) :=
  (gparse_cons c r).trans ((if_neg h1).trans ((if_neg h2).trans (if_neg h3)))

theorem scan_lt : ∀ (n : Nat) (l : List Nat) (q : List (Nat × Nat) × Nat), l.length ≤ n → scan l = some q → q.2 < l.length
  | n, [], q, _, h => by rw [scan_nil] at h; cases h
  | 0, _ :: _, _, hn, _ => by simp at hn
  | n + 1, c :: r, q, hn, h => by
    rw [List.length_cons] at hn ⊢
    by_cases hc : c = 93
    · subst hc
      rw [scan_shut] at h
      cases h
      show 0 < r.length + 1
      omega
    · by_cases hr : ∃ e r', r = 45 :: e :: r' ∧ e ≠ 93
      · obtain ⟨e, r', rfl, he⟩ := hr
        rw [scan_range hc he] at h
        obtain ⟨q', hq, rfl⟩ := Option.map_eq_some_iff.mp h
        rw [List.length_cons, List.length_cons] at hn ⊢
        have := scan_lt n r' q' (by omega) hq
        show q'.2 + 3 < _
        omega
      · rw [scan_one hc (fun e r' h' => by
          by_cases he : e = 93
          · exact he
          · exact absurd ⟨e, r', h', he⟩ hr)] at h
        obtain ⟨q', hq, rfl⟩ := Option.map_eq_some_iff.mp h
        have := scan_lt n r q' (by omega) hq
        show q'.2 + 1 < _
        omega
theorem lotParse_le {l : List Nat} {q : List (Nat × Nat) × Nat} (h : lotParse l = some q) : q.2 ≤ l.length := by
  unfold lotParse at h
  obtain ⟨q', hq, rfl⟩ := Option.map_eq_some_iff.mp h
  have := scan_lt _ _ _ (Nat.le_refl _) hq
  rw [List.length_drop] at this
  show k1 l + k2 l + q'.2 + 1 ≤ _
  omega

/-- a Part of the ledger -/
inductive PartIn (w : World) (news : List (Addr × Obj)) : Value → Row → Prop
  | any {x d : Addr} {k1 k2 k3 k4 t : Tok} : (x, instObj 39 d) ∈ news → (d, partDict w k1 k2 k3 k4 (.int 0 t) .none .none (.bool false)) ∈ news → PartIn w news (.ref x) .any
  | one {x d : Addr} {k1 k2 k3 k4 t : Tok} : (x, instObj 39 d) ∈ news → (d, partDict w k1 k2 k3 k4 (.int 1 t) .none .none (.bool false)) ∈ news → PartIn w news (.ref x) .one
  | sign {x d : Addr} {k1 k2 k3 k4 t ts : Tok} {c : Nat} : (x, instObj 39 d) ∈ news → (d, partDict w k1 k2 k3 k4 (.int 2 t) (.str ⟨#[c]⟩ ts) .none (.bool false)) ∈ news → PartIn w news (.ref x) (.sign c)
  | lot {x d rl : Addr} {k1 k2 k3 k4 t : Tok} {prs : List (Nat × Nat)} {neg : Bool} {vs : List Value} {kk : Nat} : (x, instObj 39 d) ∈ news → (d, partDict w k1 k2 k3 k4 (.int 3 t) .none (.ref rl) (.bool neg)) ∈ news →
      (rl, listOf vs.toArray kk) ∈ news → DatAll news vs (prs.map pairDat) → PartIn w news (.ref x) (.lot prs neg)
theorem PartIn.mono {w : World} {news news' : List (Addr × Obj)} (hs : ∀ p ∈ news, p ∈ news') {v : Value} {r : Row} (h : PartIn w news v r) : PartIn w news' v r := by
  cases h with
  | any a b => exact .any (hs _ a) (hs _ b)
  | one a b => exact .one (hs _ a) (hs _ b)
  | sign a b => exact .sign (hs _ a) (hs _ b)
  | lot a b c d => exact .lot (hs _ a) (hs _ b) (hs _ c) (d.mono hs)
inductive PartsIn (w : World) (news : List (Addr × Obj)) : List Value → List Row → Prop
  | nil : PartsIn w news [] []
  | cons {v : Value} {vs : List Value} {r : Row} {rs : List Row} : PartIn w news v r → PartsIn w news vs rs → PartsIn w news (v :: vs) (r :: rs)
theorem PartsIn.mono {w : World} {news news' : List (Addr × Obj)} (hs : ∀ p ∈ news, p ∈ news') {vs : List Value} {rs : List Row} (h : PartsIn w news vs rs) : PartsIn w news' vs rs := by
  induction h with
  | nil => exact .nil
  | cons a _ ih => exact .cons (a.mono hs) ih
theorem PartsIn.snoc {w : World} {news : List (Addr × Obj)} {vs : List Value} {rs : List Row} {v : Value} {r : Row} (h : PartsIn w news vs rs) (hv : PartIn w news v r) : PartsIn w news (vs ++ [v]) (rs ++ [r]) := by
  induction h with
  | nil => exact .cons hv .nil
  | cons a _ ih => exact .cons a ih
theorem PartsIn.length {w : World} {news : List (Addr × Obj)} {vs : List Value} {rs : List Row} (h : PartsIn w news vs rs) : vs.length = rs.length := by
  induction h with
  | nil => rfl
  | cons _ _ ih => rw [List.length_cons, List.length_cons, ih]
theorem PartsIn.get {w : World} {news : List (Addr × Obj)} {vs : List Value} {rs : List Row} (h : PartsIn w news vs rs) : ∀ {i : Nat} {v : Value} {r : Row}, vs[i]? = some v → rs[i]? = some r → PartIn w news v r := by
  induction h with
  | nil => intro i v r hv; simp at hv
  | cons a _ ih =>
    intro i v r hv hr
    cases i with
    | zero => cases hv; cases hr; exact a
    | succ i => exact ih (by simpa using hv) (by simpa using hr)
theorem ofs_star : Str.ofString "*" = ⟨#[42]⟩ := by decide +kernel
theorem ofs_ask : Str.ofString "?" = ⟨#[63]⟩ := by decide +kernel
theorem ofs_open : Str.ofString "[" = ⟨#[91]⟩ := by decide +kernel
section
variable {x : Str} {i : Int} (h0 : 0 ≤ i) (h : i < x.length)
include h0 h
theorem gp_any (n : (Txt.item x i == Str.ofString "*") = true) : gparse (x.cps.toList.drop i.toNat) = (gparse (x.cps.toList.drop (i + 1).toNat)).map (.any :: ·) := by
  obtain ⟨c, hd, hc⟩ := item_code h0 h
  have e := item_is hc ofs_star n
  simp only [beq_iff_eq] at e
  rw [hd, e, tn1 h0, gparse_any]
theorem gp_one (n : (Txt.item x i == Str.ofString "?") = true) : gparse (x.cps.toList.drop i.toNat) = (gparse (x.cps.toList.drop (i + 1).toNat)).map (.one :: ·) := by
  obtain ⟨c, hd, hc⟩ := item_code h0 h
  have e := item_is hc ofs_ask n
  simp only [beq_iff_eq] at e
  rw [hd, e, tn1 h0, gparse_one]
theorem gp_sign (n1 : (Txt.item x i == Str.ofString "*") = false) (n2 : (Txt.item x i == Str.ofString "?") = false) (n3 : (Txt.item x i == Str.ofString "[") = false) :
    ∃ c, Txt.item x i = ⟨#[c]⟩ ∧ gparse (x.cps.toList.drop i.toNat) = (gparse (x.cps.toList.drop (i + 1).toNat)).map (.sign c :: ·) := by
  obtain ⟨c, hd, hc⟩ := item_code h0 h
  have e1 := item_is hc ofs_star n1
  have e2 := item_is hc ofs_ask n2
  have e3 := item_is hc ofs_open n3
  simp only [beq_eq_false_iff_ne, ne_eq] at e1 e2 e3
  refine ⟨c, hc, ?_⟩
  rw [hd, tn1 h0, gparse_sign e1 e2 e3]
theorem gp_open (n : (Txt.item x i == Str.ofString "[") = true) : gparse (x.cps.toList.drop i.toNat) = match lotParse (x.cps.toList.drop (i + 1).toNat) with
    | none => none
    | some q => (gparse (x.cps.toList.drop (i + 1 + (q.2 : Int)).toNat)).map (.lot q.1 (hat (x.cps.toList.drop (i + 1).toNat)) :: ·) := by
  obtain ⟨c, hd, hc⟩ := item_code h0 h
  have e := item_is hc ofs_open n
  simp only [beq_iff_eq] at e
  rw [hd, e, tn1 h0, gparse_lot]
  cases lotParse (x.cps.toList.drop (i.toNat + 1)) with
  | none => rfl
  | some q =>
    dsimp only
    rw [List.drop_drop, tnn h0 q.2]
end
theorem gp_end {x : Str} {i : Int} (h0 : 0 ≤ i) (h : ¬ i < x.length) : gparse (x.cps.toList.drop i.toNat) = some [] := by
  rw [List.drop_eq_nil_of_le (by rw [Array.length_toList]; show x.length ≤ _; omega), gparse_nil]
end Mine
end

section
set_option maxRecDepth 100000
set_option maxHeartbeats 8000000
namespace Mine

structure G1 where
  at1 : Int
  ta : Tok
  vs : List Value
  kk : Nat
  tl : List (Addr × Obj)
  done : List Row
noncomputable def G1.led (rest : List (Addr × Obj)) (pl : Addr) (c : G1) : List (Addr × Obj) := (pl, listOf c.vs.toArray c.kk) :: (c.tl ++ rest)
noncomputable def G1.ps (c : G1) : List (Str × Value) := [(Str.ofString "at", .int c.at1 c.ta)]
noncomputable def G1.P (w : World) (x : Str) (pl : Addr) (c : G1) : Prop :=
  0 ≤ c.at1 ∧ c.at1 ≤ x.length ∧ PartsIn w c.tl c.vs c.done ∧ gparse x.cps.toList = (gparse (x.cps.toList.drop c.at1.toNat)).map (c.done ++ ·) ∧ (∀ p ∈ c.tl, @LT.lt Nat _ pl p.1) ∧ c.done.length ≤ c.at1.toNat

theorem G1.P.step {w : World} {x : Str} {pl : Addr} {c : G1} (h : c.P w x pl) {row : Row} {at' : Int} (h1 : c.at1 < at') (h2 : at' ≤ x.length)
    (hs : gparse (x.cps.toList.drop c.at1.toNat) = (gparse (x.cps.toList.drop at'.toNat)).map (row :: ·)) {new : List (Addr × Obj)} {v : Value} {t' : Tok} {kk' : Nat} (hv : PartIn w new v row) (hnew : ∀ p ∈ new, @LT.lt Nat _ pl p.1) :
    (G1.mk at' t' (c.vs ++ [v]) kk' (new ++ c.tl) (c.done ++ [row])).P w x pl := by
  obtain ⟨ha, hl, hD, hsc, ht, hd⟩ := h
  refine ⟨show 0 ≤ at' by omega, h2, ?_, ?_, ?_, ?_⟩
  · exact (hD.mono fun p hp => List.mem_append.mpr (.inr hp)).snoc (hv.mono fun p hp => List.mem_append.mpr (.inl hp))
  · show _ = (gparse (x.cps.toList.drop at'.toNat)).map _
    rw [hsc, hs, Option.map_map]
    congr 1
    funext q
    simp
  · intro q hq
    exact (List.mem_append.mp hq).elim (hnew q) (ht q)
  · show (c.done ++ [row]).length ≤ at'.toNat
    rw [List.length_append, List.length_singleton]; omega
structure G0 where
  ta : Tok
  pl : Addr
noncomputable def G0.led (rest : List (Addr × Obj)) (c : G0) : List (Addr × Obj) := (c.pl, listOf #[] 0) :: rest
noncomputable def G0.ps (x : Str) (tx : Tok) (c : G0) : List (Str × Value) := [(Str.ofString "at", .int 0 c.ta), (Str.ofString "parts", .ref c.pl), (Str.ofString "pattern", .str x tx)]
noncomputable def G0.P (rest : List (Addr × Obj)) (c : G0) : Prop := ∀ p ∈ rest, @LT.lt Nat _ p.1 c.pl
/-- what glob_parts gives back -/
inductive GlobPost (w : World) (codes : List Nat) (rest : List (Addr × Obj)) (r : Value) (led' : List (Addr × Obj)) : Prop
  | none (h : gparse codes = .none) (hr : r = .none) (hl : led' = rest)
  | some (rows : List Row) (pl : Addr) (vs : List Value) (kk : Nat) (tl new : List (Addr × Obj)) (h : gparse codes = .some rows) (hr : r = .ref pl) (hP : PartsIn w tl vs rows) (hn : new = (pl, listOf vs.toArray kk) :: tl) (hl : led' = new ++ rest)
      (hlt : ∀ z ∈ rest, ∀ p ∈ new, z.1 < p.1) (htl : ∀ p ∈ tl, pl < p.1)
/-- the ledger behind a call of lot_at -/
theorem glob_led {g h : Heap} {L : Addr} {new tl R : List (Addr × Obj)} {q xx d rl e : Addr × Obj} (N : News g L h (new ++ (e :: R))) (hnew : new = q :: xx :: d :: rl :: tl) : News g L h (q :: xx :: d :: rl :: e :: (tl ++ R)) := fun p hp => N p (by
  subst hnew
  simp only [List.mem_cons, List.mem_append] at hp ⊢
  rcases hp with h | h | h | h | h | h | h <;> simp [h])

section
local macro_rules | `(tactic| walk_at "execs cons") => `(tactic| ((with_reducible show wpAny _ _ (execs (Stmt.Expr _ _ :: _) _) _ _ _); refine wpAny_execs_cons ?_))
local macro_rules | `(tactic| walk_at "exec While Compare") => `(tactic| refine stop_elim ?_)
local macro_rules | `(tactic| walk_at "exec While Compare cons nil") => `(tactic| refine stop_elim ?_)
theorem glob_core (w : World) (mean : ExcName → Option Value) (mg mb : Str → Option Value) (rest : List (Addr × Obj)) (x : Str) (tx : Tok) (hx : x.length ≤ 1000) :
    TellsX w mean mg mb 57 30 300 rest [.str x tx]
      (GlobPost w x.cps.toList rest) := by
  w_top off
  unfold TellsX; k_fill
  intro dp un gd cn cs fa ccd cl outer A₀ base h₀ L m s Q E B F X N T hk hd hu hret
  refine wpAny_call ?_
  k_dflt ktr_enter
  refine cut (pre := [_, _]) (G0.led rest) (G0.ps x tx) (G0.P rest) (by assumption) ?_ ?_
  · ((try k_fold); k_steps)
    refine' cut_end ⟨_, _⟩ ?e1 ?e2 ?e3 ?e4 ?e5
    case e1 => k_asm
    case e2 => k_asm
    case e4 => unfold G0.ps; dsimp only; kst_all
    case e3 => unfold G0.led; dsimp only; exact fun _ h => h
    case e5 => unfold G0.P; dsimp only; assumption
  · intro c h9 tk9 m9 hr9 F9 N9
    obtain ⟨t9, pl⟩ := c
    dsimp only [G0.led, G0.ps, G0.P] at *
    ((try k_fold); k_steps)
    show wpAny _ _ _ _ _ _
    refine ksw_while (σ := G1) (G1.led rest pl) G1.ps (fun _ => True) [Str.ofString "sign", Str.ofString "lot"] (G1.P w x pl) (fun c => (x.length - c.at1).toNat) ⟨0, t9, [], 0, [], []⟩ F9 N9 trivial ?_ ?_ ?_
    · dsimp only [G1.ps]; k_dflt kst_all
    · exact ⟨Int.le_refl _, Int.natCast_nonneg _, .nil, by simp, fun _ h => (nomatch h), Nat.le_refl _⟩
    · intro c u h2 tk2 _ hP F2 N2
      have hPk := hP
      obtain ⟨at2, t2, vs2, kk2, tl2, done⟩ := c
      obtain ⟨ha2, hl2, hD2, hs2, ht2, hd2⟩ := hP
      dsimp only [G1.led, G1.ps] at *
      obtain ⟨R, hR⟩ : ∃ R, R = tl2 ++ rest := ⟨_, rfl⟩
      rw [← hR] at N2
      have hR2 : ∀ p ∈ R, p.1 ≠ pl := by
        intro p hp
        rw [hR] at hp
        rcases List.mem_append.mp hp with hp | hp
        · have := ht2 p hp; exact neN (by omega)
        · have := hr9 p hp; exact neN (by omega)
      have hvs : vs2.length ≤ 1000 := by
        have := hD2.length
        omega
      ((try k_fold); k_steps)
      · rename News _ _ _ _ => N7
        rename Fr _ _ _ _ => F7
        rename (@LT.lt Nat _ pl _ ∧ AllLt _ R) => hB7
        have hsc := gp_any ha2 (by assumption) (by assumption)
        simp only [List.push_toArray] at N7
        refine' ksw_end _ F7 N7 ?a1 trivial ?a2 ?a3 (hPk.step (new := [(_, instObj 39 _), (_, partDict w _ _ _ _ (.int 0 _) .none .none (.bool false))]) ?a5 ?a6 hsc ?a7 ?a8) ?a4
        case a1 =>
          dsimp only [G1.led, List.cons_append, List.nil_append]
          refine List.forall_mem_cons.mpr ⟨by k_memK, List.forall_mem_cons.mpr ⟨by k_memK, List.forall_mem_cons.mpr ⟨by k_memK, fun p hp => ?_⟩⟩⟩
          have : p ∈ R := by rw [hR]; exact hp
          repeat' (first | exact this | refine List.Mem.tail _ ?_)
        case a7 => exact .any (.head _) (.tail _ (.head _))
        case a2 => dsimp only [G1.ps]; k_dflt kst_all
        case a3 =>
          intro z h2 h3
          have h4 : z ≠ Str.ofString "at" := h2 (Str.ofString "at", _) (List.Mem.head _)
          repeat (first | refine (if_neg h4).trans ?_ | refine (if_neg (ne_stored h3 (List.Mem.head _))).trans ?_ | refine (if_neg (ne_stored h3 (List.Mem.tail _ (List.Mem.head _)))).trans ?_)
          exact off_base (fun _ h => (nomatch h)) h3
        case a4 => (try dsimp only); omega
        case a5 => (try dsimp only); omega
        case a6 => (try dsimp only); omega
        case a8 => exact List.forall_mem_cons.mpr ⟨ltN (Nat.lt_trans hB7.1 (by assumption)), List.forall_mem_cons.mpr ⟨ltN hB7.1, fun _ h => (nomatch h)⟩⟩
      · rename News _ _ _ _ => N7
        rename Fr _ _ _ _ => F7
        rename (@LT.lt Nat _ pl _ ∧ AllLt _ R) => hB7
        have hsc := gp_one ha2 (by assumption) (by assumption)
        simp only [List.push_toArray] at N7
        refine' ksw_end _ F7 N7 ?b1 trivial ?b2 ?b3 (hPk.step (new := [(_, instObj 39 _), (_, partDict w _ _ _ _ (.int 1 _) .none .none (.bool false))]) ?b5 ?b6 hsc ?b7 ?b8) ?b4
        case b1 =>
          dsimp only [G1.led, List.cons_append, List.nil_append]
          refine List.forall_mem_cons.mpr ⟨by k_memK, List.forall_mem_cons.mpr ⟨by k_memK, List.forall_mem_cons.mpr ⟨by k_memK, fun p hp => ?_⟩⟩⟩
          have : p ∈ R := by rw [hR]; exact hp
          repeat' (first | exact this | refine List.Mem.tail _ ?_)
        case b7 => exact .one (.head _) (.tail _ (.head _))
        case b2 => dsimp only [G1.ps]; k_dflt kst_all
        case b3 =>
          intro z h2 h3
          have h4 : z ≠ Str.ofString "at" := h2 (Str.ofString "at", _) (List.Mem.head _)
          repeat (first | refine (if_neg h4).trans ?_ | refine (if_neg (ne_stored h3 (List.Mem.head _))).trans ?_ | refine (if_neg (ne_stored h3 (List.Mem.tail _ (List.Mem.head _)))).trans ?_)
          exact off_base (fun _ h => (nomatch h)) h3
        case b4 => (try dsimp only); omega
        case b5 => (try dsimp only); omega
        case b6 => (try dsimp only); omega
        case b8 => exact List.forall_mem_cons.mpr ⟨ltN (Nat.lt_trans hB7.1 (by assumption)), List.forall_mem_cons.mpr ⟨ltN hB7.1, fun _ h => (nomatch h)⟩⟩
      · show wpAny _ _ _ _ _ _
        have hop := gp_open ha2 (by assumption) (by assumption)
        k_dflt (refine' tellsX_use ?c1 ?c2 ?c3 ?c4 ?c5 ?c6 (lotat_core w mean mg mb _ x tx (at2 + 1) _ hx (by omega) (by omega) _ rfl) ?c7 ?c8 ?_; (case c1 => k_asm); (case c2 => k_asm); (case c3 => k_asm); (case c4 => k_asm); (case c5 => k_asm); (case c6 => exact rfl); (case c7 => ktr_room); (case c8 => ktr_units))
        intro r5 l5 h5 tk5 F5 N5 hp5
        rcases hp5 with ⟨hn5, hr5, hl5⟩ | ⟨prs5, k5, q5, t5, xx5, d5, ka5, kb5, kc5, kd5, rl5, vs5, kk5, tl5, new5, hlp5, hr5, hD5, hnew5, hl5, hfr5⟩
        · subst hr5 hl5
          rw [hn5] at hop
          ((try k_fold); k_steps)
          refine' hret _ _ _ _ ?i1 ?i2 ?i3
          case i1 => k_asm
          case i2 => exact kst_newsOf (by k_asm) (l' := rest) (fun p hp => by rw [hR]; exact .tail _ (List.mem_append.mpr (.inr hp)))
          case i3 => exact .none (by rw [hs2, hop]; rfl) rfl rfl
        · subst hr5 hl5
          rw [hlp5] at hop
          dsimp only at hop
          have hle5 := lotParse_le hlp5
          rw [List.length_drop, Array.length_toList] at hle5
          have hle6 : at2 + 1 + (k5 : Int) ≤ x.length := by
            show _ ≤ ((x.cps.size : Nat) : Int)
            have : (x.cps.size : Nat) = x.length := rfl
            omega
          have N6 := glob_led N5 hnew5
          have hq5 := allLt_of (fun z hz => hfr5 z hz (q5, _) (by rw [hnew5]; exact .head _))
          have hx5 := allLt_of (fun z hz => hfr5 z hz (xx5, _) (by rw [hnew5]; exact .tail _ (.head _)))
          have hd5 := allLt_of (fun z hz => hfr5 z hz (d5, _) (by rw [hnew5]; exact .tail _ (.tail _ (.head _))))
          have hrl5 := allLt_of (fun z hz => hfr5 z hz (rl5, _) (by rw [hnew5]; exact .tail _ (.tail _ (.tail _ (.head _)))))
          have ht5 : ∀ p ∈ tl5, @LT.lt Nat _ pl p.1 := fun p hp => hfr5 _ (.head _) p (by rw [hnew5]; exact .tail _ (.tail _ (.tail _ (.tail _ hp))))
          simp only [AllLt, and_true] at hq5 hx5 hd5 hrl5
          clear N5 hfr5
          obtain ⟨R5, hR5⟩ : ∃ R5, R5 = tl5 ++ R := ⟨_, rfl⟩
          rw [← hR5] at N6
          have hR6 : ∀ p ∈ R5, p.1 ≠ pl := by
            intro p hp
            rw [hR5] at hp
            rcases List.mem_append.mp hp with hp | hp
            · have := ht5 p hp; exact neN (by omega)
            · exact hR2 p hp
          ((try k_fold); k_steps)
          rename News _ _ _ _ => N7
          rename Fr _ _ _ _ => F7
          refine' ksw_end _ F7 N7 ?m1 trivial ?m2 ?m3 (hPk.step (new := (xx5, instObj 39 d5) :: (d5, partDict w ka5 kb5 kc5 kd5 (.int 3 195) .none (.ref rl5) (.bool _)) :: (rl5, listOf vs5.toArray kk5) :: tl5) ?m5 ?m6 hop ?m7 ?m8) ?m4
          case m1 =>
            dsimp only [G1.led, List.cons_append]
            refine List.forall_mem_cons.mpr ⟨by k_memK, List.forall_mem_cons.mpr ⟨by k_memK, List.forall_mem_cons.mpr ⟨by k_memK, List.forall_mem_cons.mpr ⟨by k_memK, fun p hp => ?_⟩⟩⟩⟩
            have : p ∈ R5 := by rw [hR5, hR, ← List.append_assoc]; exact hp
            repeat' (first | exact this | refine List.Mem.tail _ ?_)
          case m7 => exact .lot (.head _) (.tail _ (.head _)) (.tail _ (.tail _ (.head _))) (hD5.mono fun _ h => .tail _ (.tail _ (.tail _ h)))
          case m2 => dsimp only [G1.ps]; k_dflt kst_all
          case m3 =>
            intro z h2 h3
            have h4 : z ≠ Str.ofString "at" := h2 (Str.ofString "at", _) (List.Mem.head _)
            repeat (first | refine (if_neg h4).trans ?_ | refine (if_neg (ne_stored h3 (List.Mem.head _))).trans ?_ | refine (if_neg (ne_stored h3 (List.Mem.tail _ (List.Mem.head _)))).trans ?_)
            exact off_base (fun _ h => (nomatch h)) h3
          case m4 => (try dsimp only); omega
          case m5 => (try dsimp only); omega
          case m6 => (try dsimp only); omega
          case m8 => exact List.forall_mem_cons.mpr ⟨ltN hx5.1, List.forall_mem_cons.mpr ⟨ltN hd5.1, List.forall_mem_cons.mpr ⟨ltN hrl5.1, ht5⟩⟩⟩
      · rename News _ _ _ _ => N7
        rename Fr _ _ _ _ => F7
        rename (@LT.lt Nat _ pl _ ∧ AllLt _ R) => hB7
        obtain ⟨c1, hc1, hsc⟩ := gp_sign ha2 (by assumption) (by assumption) (by assumption) (by assumption)
        simp only [List.push_toArray, hc1] at N7
        refine' ksw_end _ F7 N7 ?d1 trivial ?d2 ?d3 (hPk.step (new := [(_, instObj 39 _), (_, partDict w _ _ _ _ (.int 2 _) (.str ⟨#[c1]⟩ _) .none (.bool false))]) ?d5 ?d6 hsc ?d7 ?d8) ?d4
        case d1 =>
          dsimp only [G1.led, List.cons_append, List.nil_append]
          refine List.forall_mem_cons.mpr ⟨by k_memK, List.forall_mem_cons.mpr ⟨by k_memK, List.forall_mem_cons.mpr ⟨by k_memK, fun p hp => ?_⟩⟩⟩
          have : p ∈ R := by rw [hR]; exact hp
          repeat' (first | exact this | refine List.Mem.tail _ ?_)
        case d7 => exact .sign (.head _) (.tail _ (.head _))
        case d2 => dsimp only [G1.ps]; k_dflt kst_all
        case d3 =>
          intro z h2 h3
          have h4 : z ≠ Str.ofString "at" := h2 (Str.ofString "at", _) (List.Mem.head _)
          repeat (first | refine (if_neg h4).trans ?_ | refine (if_neg (ne_stored h3 (List.Mem.head _))).trans ?_ | refine (if_neg (ne_stored h3 (List.Mem.tail _ (List.Mem.head _)))).trans ?_)
          exact off_base (fun _ h => (nomatch h)) h3
        case d4 => (try dsimp only); omega
        case d5 => (try dsimp only); omega
        case d6 => (try dsimp only); omega
        case d8 => exact List.forall_mem_cons.mpr ⟨ltN (Nat.lt_trans hB7.1 (by assumption)), List.forall_mem_cons.mpr ⟨ltN hB7.1, fun _ h => (nomatch h)⟩⟩
      · refine' hret _ _ _ _ ?j1 ?j2 ?j3
        case j1 => k_asm
        case j2 => k_asm
        case j3 =>
          subst hR
          exact .some done pl vs2 kk2 tl2 _ (by rw [hs2, gp_end ha2 (by assumption)]; simp) rfl hD2 rfl rfl (fun z hz => List.forall_mem_cons.mpr ⟨hr9 z hz, fun p hp => ltN (Nat.lt_trans (hr9 z hz) (ht2 p hp))⟩) ht2
end
end Mine
end

section
set_option maxRecDepth 100000
set_option maxHeartbeats 8000000
namespace Mine
section
variable {prog : Program} {w : World} {A : Around} {E : Value → Shared → Prop} {s : Shared} {env : Env} {h₀ : Heap} {target iter : PySem.Expr} {body : List Stmt} {Q : Flow → Shared → Prop}

noncomputable def LoopL (prog : Program) (w : World) (A : Around) (env : Env) (target : PySem.Expr) (body : List Stmt) (Q : Flow → Shared → Prop) (E : Value → Shared → Prop) (it : Value) (s₂ : Shared) : Prop :=
  codeAny (model prog w) A (.forLoop target it body [] env) (fun r s' => match r with | .ok f => Q f s' | .error e => cameBackBy (model prog w) A env E e s') s₂
theorem For_L {pos : Pos} (h : wpAny (model prog w) A (eval iter env) (fun x s₁ => wpAny (model prog w) A (pyIter x) (fun it s₂ => LoopL prog w A env target body Q E it s₂) E s₁) E s)
    (hs : ∀ x, foldedSetIterable iter env x = pure x) : wpAny (model prog w) A (exec (.For target iter body [] pos) env) Q E s := wpAny_For h hs

/-- what holds between two turns of a loop whose names are all given -/
noncomputable def MidL {σ : Type} (led : σ → List (Addr × Obj)) (ps : σ → List (Str × Value)) (P : σ → Prop) (stored : List Str) (m₀ : Str → Option Value) (m : Str → Option Value) (nx : List (Addr × Obj)) : Prop :=
  ∃ c : σ, nx = led c ∧ P c ∧ (∀ p ∈ ps c, m p.1 = some p.2) ∧ (∀ z, (∀ p ∈ ps c, z ≠ p.1) → stored.contains z = false → m z = m₀ z)
theorem midL_end {σ : Type} {led : σ → List (Addr × Obj)} {ps : σ → List (Str × Value)} {P : σ → Prop} {stored : List Str} {m₀ : Str → Option Value} (c : σ) {L : Addr} {m' : Str → Option Value} {own news' : List (Addr × Obj)} {s₁ : Shared} {h' : Heap} {tk : Nat}
    (F : Fr h₀ L h' m') (N : News h₀ L h' news') (hn : ∀ p ∈ led c, p ∈ news') (ho : ∀ p ∈ own, p ∈ news') (hoff : OwnOff own ((led c).map (·.1))) (hp : P c) (hk : ∀ p ∈ ps c, m' p.1 = some p.2)
    (hr : ∀ z, (∀ p ∈ ps c, z ≠ p.1) → stored.contains z = false → m' z = m₀ z) : InvEndG h₀ L (MidL led ps P stored m₀) own s₁ { s₁ with heap := h', toks := tk } :=
  InvEndG.intro F N ⟨c, rfl, hp, hk, hr⟩ hoff hn ho

inductive LState {σ : Type} (h₀ : Heap) (s : Shared) (L l : Addr) (vs : List Value) (m₀ : Str → Option Value) (led : σ → List (Addr × Obj)) (ps : σ → List (Str × Value)) (P : Nat → σ → Prop) (stored : List Str) : Nat → Shared → Prop
  | mk (h' : Heap) (tk : Nat) (m' : Str → Option Value) (c : σ) (i : Nat) (hst : h'.IsListIter s.heap.objs.size l i ∧ h'.IsList l vs.toArray) (F' : Fr h₀ L h' m') (N' : News h₀ L h' (led c)) (hoff : ∀ p ∈ led c, p.1 ≠ s.heap.objs.size) (hP : P i c)
      (hk' : ∀ p ∈ ps c, m' p.1 = some p.2) (hr' : ∀ z, (∀ p ∈ ps c, z ≠ p.1) → stored.contains z = false → m' z = m₀ z) (hi : i ≤ vs.length) : LState h₀ s L l vs m₀ led ps P stored (vs.length + 1 - i) { s with heap := h', toks := tk }
theorem list_inv {σ : Type} {l : Addr} {vs : List Value} {nn : Nat} {m₀ : Str → Option Value} {news : List (Addr × Obj)} (led : σ → List (Addr × Obj)) (ps : σ → List (Str × Value)) (P : Nat → σ → Prop) (stored : List Str) (c₀ : σ)
    (hh : A.handled = none) (hl : ∀ c, (l, listOf vs.toArray nn) ∈ led c) (F : Fr h₀ env.locals s.heap m₀) (N : News h₀ env.locals s.heap news) (hs : ∀ p ∈ led c₀, p ∈ news) (hk : ∀ p ∈ ps c₀, m₀ p.1 = some p.2) (hp : P 0 c₀)
    (turn : ∀ i v c (u : Str → Option Value) h tk own, vs[i]? = some v → P i c → OwnOff own ((led c).map (·.1)) →
      Fr h₀ env.locals h (kstB (fun z => if stored.contains z then u z else m₀ z) (ps c)) → News h₀ env.locals h (led c ++ own) →
      wpAny (model prog w) A (assign target env v) (fun _ s₂ => wpAny (model prog w) A (execs body env) (InvPostG h₀ env.locals (MidL led ps (P (i + 1)) stored m₀) own { s with heap := h, toks := tk } Q) E s₂) E { s with heap := h, toks := tk })
    (done : ∀ c (u : Str → Option Value) h tk, P vs.length c → Fr h₀ env.locals h (kstB (fun z => if stored.contains z then u z else m₀ z) (ps c)) → News h₀ env.locals h (led c) → Q .next { s with heap := h, toks := tk })
    (hE : PassesOwn (model prog w) A env E := by passes_own) :
    wpAny (model prog w) A (pyIter (.ref l)) (fun it s₂ => LoopL prog w A env target body Q E it s₂) E s := by
  have N0 : News h₀ env.locals s.heap (led c₀) := fun p hp => N p (hs p hp)
  have hl0 := N0 _ (hl c₀)
  have hlL : s.heap.IsList l vs.toArray := PySem.IsL.isList (n := nn) hl0.1
  have hne : l ≠ s.heap.objs.size := Nat.ne_of_lt (Heap.lt_size hl0.1)
  refine wpAny_pyIter_list hlL ?_
  have W := Walks.list (prog := prog) (w := w) hh s.heap.objs.size l hne vs.toArray
  have hI0 : h₀.get? s.heap.objs.size = none := next_is_new F
  have hIL : s.heap.objs.size ≠ env.locals := fun e => absurd F.ns.lt (e ▸ Nat.lt_irrefl _)
  unfold LoopL
  refine codeAny_forLoop_any
    (LState h₀ s env.locals l vs m₀ led ps P stored) ?_ (vs.length + 1)
    (.mk _ s.toks m₀ c₀ 0 ⟨⟨_, Heap.get?_push_size _ rfl, rfl, rfl⟩, hlL.at fun o e => Heap.get?_push_of_some _ e⟩ (F.push _) (fun p hp => ⟨Heap.get?_push_of_some _ (N0 p hp).1, (N0 p hp).2⟩) (fun p hp => Nat.ne_of_lt (Heap.lt_size (N0 p hp).1)) hp hk (fun _ _ _ => rfl) (Nat.zero_le _))
  rintro _ _ ⟨h', tk, m', c, i, hst, F', N', hoffI, hP, hk', hr', hi⟩
  have keep : ∀ h₁ : Heap, (∀ b o, b ∉ [s.heap.objs.size] → h'.get? b = some o → h₁.get? b = some o) → Fr h₀ env.locals h₁ m' ∧ News h₀ env.locals h₁ (led c) := fun h₁ hk₁ =>
    ⟨⟨F'.ns.at' fun o e => hk₁ _ o (by simp only [List.mem_singleton]; exact fun e => hIL e.symm) e, fun b o e => hk₁ b o (by simp only [List.mem_singleton]; rintro rfl; rw [hI0] at e; cases e) (F'.keep b o e), F'.above⟩,
      fun p hp => ⟨hk₁ _ _ (by simp only [List.mem_singleton]; exact hoffI p hp) (N' p hp).1, (N' p hp).2⟩⟩
  by_cases hlt : i < vs.length
  · refine W.item i _ _ _ (by simpa using hlt) hst fun v h₁ tk₁ hv hst₁ hk₁ => ?_
    obtain ⟨F₁, N₁⟩ := keep h₁ hk₁
    refine letGo_listiter hst₁.1 ?_
    obtain ⟨oI, hoI, hoI2⟩ := id hst₁.1
    have hown : ∀ p ∈ [(s.heap.objs.size, oI)], h₁.get? p.1 = some p.2 ∧ p.1 ≠ env.locals ∧ h₀.get? p.1 = none := fun p hp => by
      rw [List.mem_singleton.mp hp]
      exact ⟨hoI, hIL, hI0⟩
    have N₂ : News h₀ env.locals h₁ (led c ++ [(s.heap.objs.size, oI)]) := fun p hp => (List.mem_append.mp hp).elim (N₁ p) (hown p)
    have hsep : OwnOff [(s.heap.objs.size, oI)] ((led c).map (·.1)) := by
      intro p hp b hb e
      obtain ⟨q, hq, rfl⟩ := List.mem_map.mp hb
      rw [List.mem_singleton.mp hp] at e
      exact hoffI q hq e.symm
    refine wpAny_mono (turn i v c m' h₁ tk₁ _ (by simpa using hv) hP hsep (ksw_fr hk' hr' F₁) N₂) (fun _ s₂ h₂ => ?_) fun e s'' x => hE e s'' x
    refine wpAny_mono h₂ (fun f s₃ h₃ => ?_) fun e s'' x => hE e s'' x
    have fin : InvEndG h₀ env.locals (MidL led ps (P (i + 1)) stored m₀) [(s.heap.objs.size, oI)] { s with heap := h₁, toks := tk₁ } s₃ →
        ∃ m, m < vs.length + 1 - i ∧ LState h₀ s env.locals l vs m₀ led ps P stored m s₃ := by
      rintro ⟨h'', tk'', m'', news'', nx, rfl, F'', N'', hnx, how, hof, c', rfl, hp9, hk9, hr9⟩
      refine ⟨vs.length + 1 - (i + 1), by omega, .mk h'' tk'' m'' c' (i + 1) ⟨⟨oI, (N'' _ (how _ (.head _))).1, hoI2⟩, PySem.IsL.isList (n := nn) (N'' _ (hnx _ (hl c'))).1⟩ F'' (fun p hp => N'' p (hnx p hp)) ?_ hp9 hk9 hr9 hlt⟩
      intro p hp e
      exact hof (s.heap.objs.size, oI) (.head _) p.1 (List.mem_map.mpr ⟨p, hp, rfl⟩) e.symm
    cases f with
    | ret v => exact h₃
    | brk => exact h₃
    | next => exact fin h₃
    | cont => exact fin h₃
  · have hin : i = vs.length := by omega
    subst hin
    refine W.done _ _ _ (by simpa using hst) fun h₁ tk₁ hk₁ => wpAny_execs_nil ?_
    obtain ⟨F₁, N₁⟩ := keep h₁ hk₁
    exact done c m' h₁ tk₁ hP (ksw_fr hk' hr' F₁) N₁
end
end Mine
end

section
set_option maxRecDepth 100000
set_option maxHeartbeats 8000000
namespace Mine

noncomputable abbrev tupN (l : List Value) (n : Nat) : Obj := { cls := .type "tuple", data := .seq l.toArray n }
/-- what a datum's reading looks like -/
noncomputable def DatLook (news : List (Addr × Obj)) (v : Value) : Dat → Prop
  | .none => v = .none
  | .bool b => v = .bool b
  | .int i => ∃ t, v = .int i t
  | .str x => ∃ t, v = .str x t
  | .bytes b => ∃ t, v = .bytes b t
  | .tuple ds => ∃ a vs n, v = .ref a ∧ (a, tupN vs n) ∈ news ∧ DatAll news vs ds
  | .list ds => ∃ a vs n, v = .ref a ∧ (a, listOf vs.toArray n) ∈ news ∧ DatAll news vs ds
theorem dat_look {news : List (Addr × Obj)} {v : Value} {d : Dat} (h : DatIn news v d) : DatLook news v d := by
  cases h with
  | none => exact rfl
  | bool b => exact rfl
  | int i t => exact ⟨t, rfl⟩
  | str x t => exact ⟨t, rfl⟩
  | bytes b t => exact ⟨t, rfl⟩
  | tuple hm r => exact ⟨_, _, _, rfl, hm, r⟩
  | list hm r => exact ⟨_, _, _, rfl, hm, r⟩
noncomputable def AllLook (news : List (Addr × Obj)) (vs : List Value) : List Dat → Prop
  | [] => vs = []
  | d :: ds => ∃ v us, vs = v :: us ∧ DatIn news v d ∧ DatAll news us ds
theorem all_look {news : List (Addr × Obj)} {vs : List Value} {ds : List Dat} (h : DatAll news vs ds) : AllLook news vs ds := by
  cases h with
  | nil => exact rfl
  | cons a r => exact ⟨_, _, rfl, a, r⟩
theorem in_tup2 {news : List (Addr × Obj)} {v : Value} {x y : Str} (h : DatIn news v (.tuple [.str x, .str y])) : ∃ a n t1 t2, v = .ref a ∧ (a, tupN [.str x t1, .str y t2] n) ∈ news := by
  obtain ⟨a, vs, n, hv, hm, r⟩ := dat_look h
  obtain ⟨v1, us, rfl, h1, r⟩ := all_look r
  obtain ⟨v2, us, rfl, h2, r⟩ := all_look r
  obtain rfl := all_look r
  obtain ⟨t1, rfl⟩ := dat_look h1
  obtain ⟨t2, rfl⟩ := dat_look h2
  exact ⟨a, n, t1, t2, hv, hm⟩
theorem in_tup4 {news : List (Addr × Obj)} {v : Value} {d1 d2 d3 d4 : Dat} (h : DatIn news v (.tuple [d1, d2, d3, d4])) :
    ∃ a n v1 v2 v3 v4, v = .ref a ∧ (a, tupN [v1, v2, v3, v4] n) ∈ news ∧ DatLook news v1 d1 ∧ DatLook news v2 d2 ∧ DatLook news v3 d3 ∧ DatLook news v4 d4 := by
  obtain ⟨a, vs, n, hv, hm, r⟩ := dat_look h
  obtain ⟨v1, us, rfl, h1, r⟩ := all_look r
  obtain ⟨v2, us, rfl, h2, r⟩ := all_look r
  obtain ⟨v3, us, rfl, h3, r⟩ := all_look r
  obtain ⟨v4, us, rfl, h4, r⟩ := all_look r
  obtain rfl := all_look r
  exact ⟨a, n, v1, v2, v3, v4, hv, hm, dat_look h1, dat_look h2, dat_look h3, dat_look h4⟩

theorem pairs_get {news : List (Addr × Obj)} {vs : List Value} {prs : List (Nat × Nat)} (h : DatAll news vs (prs.map pairDat)) {i : Nat} {v : Value} (hv : vs[i]? = some v) :
    ∃ p a n t1 t2, prs[i]? = some p ∧ v = .ref a ∧ (a, ({ cls := .type "tuple", data := .seq #[.str ⟨#[p.1]⟩ t1, .str ⟨#[p.2]⟩ t2] n } : Obj)) ∈ news := by
  have hl := h.length
  rw [List.length_map] at hl
  have hi : i < vs.length := by
    by_cases q : i < vs.length
    · exact q
    · rw [List.getElem?_eq_none (by omega)] at hv; cases hv
  have hi' : i < prs.length := by omega
  obtain ⟨v', hv', hd⟩ := h.get (k := i) (by rw [List.length_map]; exact hi')
  rw [hv] at hv'
  cases hv'
  rw [List.getElem_map] at hd
  refine ⟨prs[i], ?_⟩
  obtain ⟨a, n, t1, t2, hv, hm⟩ := in_tup2 hd
  exact ⟨_, _, _, _, by simp [hi'], hv, hm⟩

theorem lt_single {a b : Nat} : (⟨#[a]⟩ : Str).cps.toList < (⟨#[b]⟩ : Str).cps.toList ↔ a < b := by
  show [a] < [b] ↔ a < b
  rw [List.cons_lt_cons_iff]
  simp
noncomputable def inR (prs : List (Nat × Nat)) (s : Nat) : Bool := prs.any fun p => decide (p.1 ≤ s) && decide (s ≤ p.2)

theorem inR_step {prs : List (Nat × Nat)} {i s : Nat} {p : Nat × Nat} (h : prs[i]? = some p) : inR (prs.take (i + 1)) s = (inR (prs.take i) s || (decide (p.1 ≤ s) && decide (s ≤ p.2))) := by
  unfold inR
  rw [List.take_add_one, h, List.any_append]
  simp

section
local macro_rules | `(tactic| walk_at "exec For Tuple Attribute cons nil") => `(tactic| (k_here; with_unfolding_all refine' For_L ?_ ?k1; (case k1 => intro _; rfl)))
theorem takes_lot (w : World) (mean : ExcName → Option Value) (mg mb : Str → Option Value) (rest : List (Addr × Obj)) (xx d rl : Addr) (ka kb kc kd t : Tok) (neg : Bool) (vs : List Value) (kk : Nat) (prs : List (Nat × Nat)) (s0 : Nat) (ts : Tok)
    (h1 : (xx, instObj 39 d) ∈ rest) (h2 : (d, partDict w ka kb kc kd (.int 3 t) .none (.ref rl) (.bool neg)) ∈ rest) (h3 : (rl, listOf vs.toArray kk) ∈ rest) (hD : DatAll rest vs (prs.map pairDat)) :
    TellsX w mean mg mb 36 10 100 rest [.ref xx, .str ⟨#[s0]⟩ ts] (fun r led' => r = .bool (inR prs s0 != neg) ∧ led' = rest) := by
  w_top off
  unfold TellsX; k_fill
  intro dp un gd cn cs fa ccd cl outer A₀ base h₀ L m s Q E B F X N T hk hd hu hret
  refine wpAny_call ?_
  k_dflt ktr_enter
  refine cut (σ := Unit) (pre := [_, _, _]) (fun _ => rest) (fun _ => [(Str.ofString "inside", .bool false), (Str.ofString "self", .ref xx), (Str.ofString "sign", .str ⟨#[s0]⟩ ts)]) (fun _ => True) (by assumption) ?_ ?_
  · ((try k_fold); k_steps)
    refine' cut_end () ?e1 ?e2 ?e3 ?e4 ?e5
    case e1 => k_asm
    case e2 => k_asm
    case e3 => exact fun _ h => h
    case e4 => kst_all
    case e5 => trivial
  · intro _ h9 tk9 m9 _ F9 N9
    ((try k_fold); k_steps)
    show wpAny _ _ _ _ _ _
    refine list_inv (σ := Bool) (fun _ => rest) (fun c => [(Str.ofString "inside", .bool c)]) (fun i c => c = inR (prs.take i) s0) [Str.ofString "low", Str.ofString "high"] false rfl (fun _ => h3) F9 N9 (fun _ h => h) ?_ rfl ?_ ?_
    · k_dflt kst_all
    · intro i v c u h2 tk2 own hv hc hoff F2 N2
      obtain ⟨p, a, n, t1, t2, hp, rfl, ha⟩ := pairs_get hD hv
      obtain ⟨R, hR⟩ : ∃ R, R = rest ++ own := ⟨_, rfl⟩
      rw [← hR] at N2
      have hin : ∀ q ∈ rest, q ∈ R := fun q hq => by rw [hR]; exact List.mem_append.mpr (.inl hq)
      have ha' := hin _ ha
      ((try k_fold); k_steps)
      · have e1 := lt_single.mp ‹(⟨#[s0]⟩ : Str).cps.toList < (⟨#[p.1]⟩ : Str).cps.toList›
        have e1 : decide (p.1 ≤ s0) = false := decide_eq_false (by omega)
        rename News _ _ _ _ => N7
        rename Fr _ _ _ _ => F7
        refine' midL_end c F7 N7 hin ?a1 hoff ?a2 ?a3 ?a4
        case a1 => intro q hq; rw [hR]; exact List.mem_append.mpr (.inr hq)
        case a2 => rw [inR_step hp, ← hc]; simp [e1]
        case a3 => k_dflt kst_all
        case a4 =>
          intro z h2 h3
          have h4 : z ≠ Str.ofString "inside" := h2 (Str.ofString "inside", _) (List.Mem.head _)
          repeat (first | refine (if_neg h4).trans ?_ | refine (if_neg (ne_stored h3 (List.Mem.head _))).trans ?_ | refine (if_neg (ne_stored h3 (List.Mem.tail _ (List.Mem.head _)))).trans ?_)
          exact off_base (fun _ h => (nomatch h)) h3
      · have e1 := lt_single.mp ‹(⟨#[p.2]⟩ : Str).cps.toList < (⟨#[s0]⟩ : Str).cps.toList›
        have e1 : decide (s0 ≤ p.2) = false := decide_eq_false (by omega)
        rename News _ _ _ _ => N7
        rename Fr _ _ _ _ => F7
        refine' midL_end c F7 N7 hin ?b1 hoff ?b2 ?b3 ?b4
        case b1 => intro q hq; rw [hR]; exact List.mem_append.mpr (.inr hq)
        case b2 => rw [inR_step hp, ← hc]; simp [e1]
        case b3 => k_dflt kst_all
        case b4 =>
          intro z h2 h3
          have h4 : z ≠ Str.ofString "inside" := h2 (Str.ofString "inside", _) (List.Mem.head _)
          repeat (first | refine (if_neg h4).trans ?_ | refine (if_neg (ne_stored h3 (List.Mem.head _))).trans ?_ | refine (if_neg (ne_stored h3 (List.Mem.tail _ (List.Mem.head _)))).trans ?_)
          exact off_base (fun _ h => (nomatch h)) h3
      · have e1 := (not_congr lt_single).mp ‹¬ (⟨#[s0]⟩ : Str).cps.toList < (⟨#[p.1]⟩ : Str).cps.toList›
        have e2 := (not_congr lt_single).mp ‹¬ (⟨#[p.2]⟩ : Str).cps.toList < (⟨#[s0]⟩ : Str).cps.toList›
        have e3 : decide (p.1 ≤ s0) = true := decide_eq_true (by omega)
        have e4 : decide (s0 ≤ p.2) = true := decide_eq_true (by omega)
        rename News _ _ _ _ => N7
        rename Fr _ _ _ _ => F7
        refine' midL_end true F7 N7 hin ?d1 hoff ?d2 ?d3 ?d4
        case d1 => intro q hq; rw [hR]; exact List.mem_append.mpr (.inr hq)
        case d2 => rw [inR_step hp, ← hc]; simp [e3, e4]
        case d3 => k_dflt kst_all
        case d4 =>
          intro z h2 h3
          have h4 : z ≠ Str.ofString "inside" := h2 (Str.ofString "inside", _) (List.Mem.head _)
          repeat (first | refine (if_neg h4).trans ?_ | refine (if_neg (ne_stored h3 (List.Mem.head _))).trans ?_ | refine (if_neg (ne_stored h3 (List.Mem.tail _ (List.Mem.head _)))).trans ?_)
          exact off_base (fun _ h => (nomatch h)) h3
    · intro c u h2 tk2 hc F2 N2
      ((try k_fold); k_steps)
      refine' hret _ _ _ _ ?g1 ?g2 ?g3
      case g1 => k_asm
      case g2 => k_asm
      case g3 =>
        rw [hc, List.take_of_length_le (by have := hD.length; rw [List.length_map] at this; omega)]
        exact ⟨rfl, rfl⟩
theorem takes_one (w : World) (mean : ExcName → Option Value) (mg mb : Str → Option Value) (rest : List (Addr × Obj)) (xx d : Addr) (ka kb kc kd t : Tok) (s0 : Nat) (ts : Tok)
    (h1 : (xx, instObj 39 d) ∈ rest) (h2 : (d, partDict w ka kb kc kd (.int 1 t) .none .none (.bool false)) ∈ rest) :
    TellsX w mean mg mb 36 10 100 rest [.ref xx, .str ⟨#[s0]⟩ ts] (fun r led' => r = .bool true ∧ led' = rest) := by
  unfold TellsX; k_fill
  intro dp un gd cn cs fa ccd cl outer A₀ base h₀ L m s Q E B F X N T hk hd hu hret
  refine wpAny_call ?_
  k_dflt ktr_enter
  ((try k_fold); k_steps)
  refine' hret _ _ _ _ ?g1 ?g2 ?g3
  case g1 => k_asm
  case g2 => k_asm
  case g3 => exact ⟨rfl, rfl⟩
theorem takes_sign (w : World) (mean : ExcName → Option Value) (mg mb : Str → Option Value) (rest : List (Addr × Obj)) (xx d : Addr) (ka kb kc kd t tc : Tok) (c s0 : Nat) (ts : Tok)
    (h1 : (xx, instObj 39 d) ∈ rest) (h2 : (d, partDict w ka kb kc kd (.int 2 t) (.str ⟨#[c]⟩ tc) .none (.bool false)) ∈ rest) :
    TellsX w mean mg mb 36 10 100 rest [.ref xx, .str ⟨#[s0]⟩ ts] (fun r led' => r = .bool ((⟨#[c]⟩ : Str) == ⟨#[s0]⟩) ∧ led' = rest) := by
  unfold TellsX; k_fill
  intro dp un gd cn cs fa ccd cl outer A₀ base h₀ L m s Q E B F X N T hk hd hu hret
  refine wpAny_call ?_
  k_dflt ktr_enter
  ((try k_fold); k_steps)
  refine' hret _ _ _ _ ?g1 ?g2 ?g3
  case g1 => k_asm
  case g2 => k_asm
  case g3 => exact ⟨rfl, rfl⟩
end
noncomputable def takesR : Row → Nat → Bool
  | .any, _ => false
  | .one, _ => true
  | .sign c, s => (⟨#[c]⟩ : Str) == ⟨#[s]⟩
  | .lot prs neg, s => inR prs s != neg
theorem takes_spec {w : World} {mean : ExcName → Option Value} {mg mb : Str → Option Value} {rest : List (Addr × Obj)} {v : Value} {r : Row} {s0 : Nat} {ts : Tok} (h : PartIn w rest v r) (hr : r ≠ .any) :
    TellsX w mean mg mb 36 10 100 rest [v, .str ⟨#[s0]⟩ ts] (fun x led' => x = .bool (takesR r s0) ∧ led' = rest) := by
  cases h with
  | any => exact absurd rfl hr
  | one a b => exact takes_one w mean mg mb rest _ _ _ _ _ _ _ _ _ a b
  | sign a b => exact takes_sign w mean mg mb rest _ _ _ _ _ _ _ _ _ _ _ a b
  | lot a b c d => exact takes_lot w mean mg mb rest _ _ _ _ _ _ _ _ _ _ _ _ _ _ a b c d
end Mine
end

section
set_option maxRecDepth 100000
set_option maxHeartbeats 8000000
namespace Mine
section
variable {prog : Program} {w : World} {A : Around} {E : Value → Shared → Prop} {s : Shared}
theorem in_range1 {r : Addr} {a b x : Int} {t u v k : Tok} {Q : Value → Shared → Prop} (hr : IsRange s.heap r a b 1 t u v)
    (h : Q (.bool (decide (a ≤ x) && decide (x < b))) s) : wpAny (model prog w) A (compareOp .In (.int x k) (.ref r)) Q E s := by
  have hT : s.TypeIs (.ref r) "range" := ⟨_, hr, rfl⟩
  have e : (Builtin.Range.rangePlace? a b 1 x).isSome = (decide (a ≤ x) && decide (x < b)) := by
    unfold Builtin.Range.rangePlace?
    simp [Int.emod_one]
    by_cases p : a ≤ x <;> by_cases q : x < b <;> simp [p, q]
  refine PyProof.Rows.In_slot hT F.slot_range_contains (wpAny_call_entry F.slot_range_contains hT F.entry_range_contains ?_ (F.args_range_contains_2 _ _))
  show wpAny _ _ (PySem.rule _ >>= _) _ _ s
  refine wpAny_bind (wpAny_rule ?_)
  obtain ⟨hp, g, d, tk, os⟩ := s
  wp_walk using AutoSeq1.wpAny_loadPart' hr
  rw [e]
  exact ⟨_, rfl, wpAny_truthy_bool h⟩
end
end Mine
end

section
set_option maxRecDepth 100000
set_option maxHeartbeats 8000000
namespace Mine

noncomputable def rowDat : Row → Dat
  | .any => .tuple [.int 0, .none, .none, .bool false]
  | .one => .tuple [.int 1, .none, .none, .bool false]
  | .sign c => .tuple [.int 2, .str ⟨#[c]⟩, .none, .bool false]
  | .lot prs neg => .tuple [.int 3, .none, .list (prs.map pairDat), .bool neg]
theorem cast_in {a b c : Nat} : (decide ((a : Int) ≤ (c : Int)) && decide ((c : Int) < (b : Int) + 1)) = true ↔ (decide (a ≤ c) && decide (c ≤ b)) = true := by
  simp only [Bool.and_eq_true, decide_eq_true_eq]
  constructor <;> intro h <;> omega
theorem cast_out {a b c : Nat} (h : (decide ((a : Int) ≤ (c : Int)) && decide ((c : Int) < (b : Int) + 1)) = false) : (decide (a ≤ c) && decide (c ≤ b)) = false := by
  cases q : (decide (a ≤ c) && decide (c ≤ b))
  · rfl
  · rw [cast_in.mpr q] at h; cases h
theorem inR_last {prs : List (Nat × Nat)} {i s : Nat} {p : Nat × Nat} (h : prs[i]? = some p) (q : (decide (p.1 ≤ s) && decide (s ≤ p.2)) = true) (_ : True → True) : inR prs s = true := by
  unfold inR
  exact List.any_eq_true.mpr ⟨p, List.mem_of_getElem? h, q⟩
section
local macro_rules | `(tactic| walk_at "exec For Tuple Subscript cons nil") => `(tactic| (k_here; with_unfolding_all refine' For_L ?_ ?k1; (case k1 => intro _; rfl)))
local macro_rules | `(tactic| walk_at "compareOp In int ref") => `(tactic| refine in_range1 (by assumption) ?_)
theorem rtakes_lot (w : World) (mean : ExcName → Option Value) (mg mb : Str → Option Value) (rest : List (Addr × Obj)) (rw rl : Addr) (t : Tok) (neg : Bool) (n : Nat) (vs : List Value) (kk : Nat) (prs : List (Nat × Nat)) (s0 : Nat) (ts : Tok)
    (h1 : (rw, tupN [.int 3 t, .none, .ref rl, .bool neg] n) ∈ rest) (h3 : (rl, listOf vs.toArray kk) ∈ rest) (hD : DatAll rest vs (prs.map pairDat)) :
    TellsX w mean mg mb 99 10 100 rest [.ref rw, .str ⟨#[s0]⟩ ts] (fun r led' => r = .bool (inR prs s0 != neg) ∧ led' = rest) := by
  w_top off
  unfold TellsX; k_fill
  intro dp un gd cn cs fa ccd cl outer A₀ base h₀ L m s Q E B F X N T hk hd hu hret
  refine wpAny_call ?_
  k_dflt ktr_enter
  refine cut (σ := Unit) (pre := [_]) (fun _ => rest) (fun _ => [(Str.ofString "row", .ref rw), (Str.ofString "sign", .str ⟨#[s0]⟩ ts)]) (fun _ => True) (by assumption) ?_ ?_
  · ((try k_fold); k_steps)
    refine' cut_end () ?e1 ?e2 ?e3 ?e4 ?e5
    case e1 => k_asm
    case e2 => k_asm
    case e3 => exact fun _ h => h
    case e4 => kst_all
    case e5 => trivial
  · intro _ h9 tk9 m9 _ F9 N9
    ((try k_fold); k_steps)
    show wpAny _ _ _ _ _ _
    refine list_inv (σ := Unit) (fun _ => rest) (fun _ => []) (fun i _ => inR (prs.take i) s0 = false) [Str.ofString "low", Str.ofString "high"] () rfl (fun _ => h3) F9 N9 (fun _ h => h) (fun _ h => nomatch h) rfl ?_ ?_
    · intro i v c u h2 tk2 own hv hc hoff F2 N2
      obtain ⟨p, a, n, t1, t2, hp, rfl, ha⟩ := pairs_get hD hv
      obtain ⟨R, hR⟩ : ∃ R, R = rest ++ own := ⟨_, rfl⟩
      rw [← hR] at N2
      have hin : ∀ q ∈ rest, q ∈ R := fun q hq => by rw [hR]; exact List.mem_append.mpr (.inl hq)
      have ha' := hin _ ha
      have h1' := hin _ h1
      ((try k_fold); k_steps)
      · rename (decide _ && decide _) = true => e1
        rename News _ _ _ _ => N7
        refine' hret _ rest _ _ ?f1 ?f2 ?f3
        case f1 => k_asm
        case f2 => exact kst_newsOf N7 hin
        case f3 => exact ⟨by rw [inR_last hp (cast_in.mp e1) (fun q => q)]; simp, rfl⟩
      · rename (decide _ && decide _) = false => e1
        rename News _ _ _ _ => N7
        rename Fr _ _ _ _ => F7
        refine' midL_end () F7 N7 hin ?a1 hoff ?a2 (fun _ h => nomatch h) ?a4
        case a1 => intro q hq; rw [hR]; exact List.mem_append.mpr (.inr hq)
        case a2 => rw [inR_step hp, hc, cast_out e1]; rfl
        case a4 =>
          intro z h2 h3
          repeat (first | refine (if_neg (ne_stored h3 (List.Mem.head _))).trans ?_ | refine (if_neg (ne_stored h3 (List.Mem.tail _ (List.Mem.head _)))).trans ?_)
          exact off_base (fun _ h => (nomatch h)) h3
    · intro c u h2 tk2 hc F2 N2
      rw [List.take_of_length_le (by have := hD.length; rw [List.length_map] at this; omega)] at hc
      ((try k_fold); k_steps)
      refine' hret _ _ _ _ ?g1 ?g2 ?g3
      case g1 => k_asm
      case g2 => k_asm
      case g3 => exact ⟨by rw [hc]; simp, rfl⟩
theorem rtakes_one (w : World) (mean : ExcName → Option Value) (mg mb : Str → Option Value) (rest : List (Addr × Obj)) (rw : Addr) (t : Tok) (n : Nat) (s0 : Nat) (ts : Tok)
    (h1 : (rw, tupN [.int 1 t, .none, .none, .bool false] n) ∈ rest) :
    TellsX w mean mg mb 99 10 100 rest [.ref rw, .str ⟨#[s0]⟩ ts] (fun r led' => r = .bool true ∧ led' = rest) := by
  unfold TellsX; k_fill
  intro dp un gd cn cs fa ccd cl outer A₀ base h₀ L m s Q E B F X N T hk hd hu hret
  refine wpAny_call ?_
  k_dflt ktr_enter
  ((try k_fold); k_steps)
  refine' hret _ _ _ _ ?g1 ?g2 ?g3
  case g1 => k_asm
  case g2 => k_asm
  case g3 => exact ⟨rfl, rfl⟩
theorem rtakes_sign (w : World) (mean : ExcName → Option Value) (mg mb : Str → Option Value) (rest : List (Addr × Obj)) (rw : Addr) (t tc : Tok) (n : Nat) (c s0 : Nat) (ts : Tok)
    (h1 : (rw, tupN [.int 2 t, .str ⟨#[c]⟩ tc, .none, .bool false] n) ∈ rest) :
    TellsX w mean mg mb 99 10 100 rest [.ref rw, .str ⟨#[s0]⟩ ts] (fun r led' => r = .bool ((⟨#[c]⟩ : Str) == ⟨#[s0]⟩) ∧ led' = rest) := by
  unfold TellsX; k_fill
  intro dp un gd cn cs fa ccd cl outer A₀ base h₀ L m s Q E B F X N T hk hd hu hret
  refine wpAny_call ?_
  k_dflt ktr_enter
  ((try k_fold); k_steps)
  refine' hret _ _ _ _ ?g1 ?g2 ?g3
  case g1 => k_asm
  case g2 => k_asm
  case g3 => exact ⟨rfl, rfl⟩
end
theorem rtakes_spec {w : World} {mean : ExcName → Option Value} {mg mb : Str → Option Value} {rest : List (Addr × Obj)} {v : Value} {r : Row} {s0 : Nat} {ts : Tok} (h : DatIn rest v (rowDat r)) (hr : r ≠ .any) :
    TellsX w mean mg mb 99 10 100 rest [v, .str ⟨#[s0]⟩ ts] (fun x led' => x = .bool (takesR r s0) ∧ led' = rest) := by
  cases r with
  | any => exact absurd rfl hr
  | one =>
    obtain ⟨a, n, v1, v2, v3, v4, rfl, hm, ⟨t1, rfl⟩, rfl, rfl, rfl⟩ := in_tup4 h
    exact rtakes_one w mean mg mb rest _ _ _ _ _ hm
  | sign c =>
    obtain ⟨a, n, v1, v2, v3, v4, rfl, hm, ⟨t1, rfl⟩, ⟨t2, rfl⟩, rfl, rfl⟩ := in_tup4 h
    exact rtakes_sign w mean mg mb rest _ _ _ _ _ _ _ hm
  | lot prs neg =>
    obtain ⟨a, n, v1, v2, v3, v4, rfl, hm, ⟨t1, rfl⟩, rfl, ⟨b, vs, k, rfl, hl, hD⟩, rfl⟩ := in_tup4 h
    exact rtakes_lot w mean mg mb rest _ _ _ _ _ _ _ _ _ _ hm hl hD
end Mine
end

section
set_option maxRecDepth 100000
set_option maxHeartbeats 8000000
namespace Mine

noncomputable def dOk (n : Nat) : Dat → Bool
  | .none => true
  | .bool _ => true
  | .int _ => true
  | .str x => PyData.strOk x
  | .bytes _ => false
  | .tuple ds => match n with | 0 => false | m + 1 => ds.all (dOk m)
  | .list ds => match n with | 0 => false | m + 1 => ds.all (dOk m)
section
variable {h₀ h : Heap} {L : Addr} {news : List (Addr × Obj)}
theorem d_all {n : Nat} (ih : ∀ {v : Value} {d : Dat}, DatIn news v d → dOk n d = true → ∃ as, Reads h v (kqdP d) as) : ∀ (ds : List Dat) {vs : List Value}, DatAll news vs ds → (∀ d ∈ ds, dOk n d = true) → ∃ as, ReadsAll h vs (kqdPs ds) as
  | [], vs, r, _ => by
    obtain rfl := all_look r
    exact ⟨_, ReadsAll.nil⟩
  | d :: ds, vs, r, hk => by
    obtain ⟨v, us, rfl, hd, r⟩ := all_look r
    obtain ⟨as, q⟩ := ih hd (hk _ (.head _))
    obtain ⟨bs, p⟩ := d_all ih ds r fun d hm => hk d (.tail _ hm)
    rw [kqdPs]
    exact ⟨_, ReadsAll.cons q p⟩
theorem d_in (N : News h₀ L h news) : ∀ (n : Nat) {v : Value} {d : Dat}, DatIn news v d → dOk n d = true → ∃ as, Reads h v (kqdP d) as := by
  intro n
  induction n with
  | zero =>
    intro v d a hk
    cases d with
    | none => obtain rfl := dat_look a; exact ⟨_, Reads.none⟩
    | bool b => obtain rfl := dat_look a; exact ⟨_, Reads.bool b⟩
    | int i => obtain ⟨t, rfl⟩ := dat_look a; exact ⟨_, Reads.int i t⟩
    | str x => obtain ⟨t, rfl⟩ := dat_look a; exact ⟨_, Reads.str x t⟩
    | bytes b => cases hk
    | tuple ds => cases hk
    | list ds => cases hk
  | succ n ih =>
    intro v d a hk
    cases d with
    | none => obtain rfl := dat_look a; exact ⟨_, Reads.none⟩
    | bool b => obtain rfl := dat_look a; exact ⟨_, Reads.bool b⟩
    | int i => obtain ⟨t, rfl⟩ := dat_look a; exact ⟨_, Reads.int i t⟩
    | str x => obtain ⟨t, rfl⟩ := dat_look a; exact ⟨_, Reads.str x t⟩
    | bytes b => cases hk
    | tuple ds =>
      obtain ⟨b, vs, k, rfl, hm, r⟩ := dat_look a
      obtain ⟨as, q⟩ := d_all ih ds r (List.all_eq_true.mp hk)
      rw [kqdP]
      exact ⟨as, reads_tuple_at (N.get hm) rfl rfl (by simpa using q)⟩
    | list ds =>
      obtain ⟨b, vs, k, rfl, hm, r⟩ := dat_look a
      obtain ⟨as, q⟩ := d_all ih ds r (List.all_eq_true.mp hk)
      rw [kqdP]
      exact ⟨_, reads_list_at (N.get hm) rfl rfl (by simpa [W.listOf] using q)⟩
end
theorem d_lay : ∀ (n : Nat) (d : Dat), dOk n d = true → (kqdP d).canLay0 = true ∧ (kqdP d).depth ≤ n := by
  have all : ∀ (n : Nat), (∀ d, dOk n d = true → (kqdP d).canLay0 = true ∧ (kqdP d).depth ≤ n) → ∀ ds : List Dat, (∀ d ∈ ds, dOk n d = true) → PyData.canLayAll0 (kqdPs ds) = true ∧ PyData.depthAll (kqdPs ds) ≤ n := by
    intro n ih ds
    induction ds with
    | nil => intro _; simp [kqdPs, PyData.canLayAll0, PyData.depthAll]
    | cons d ds hi =>
      intro h
      have h1 := ih d (h d (.head _))
      have h2 := hi fun e he => h e (.tail _ he)
      simp only [kqdPs, PyData.canLayAll0, PyData.depthAll, h1.1, h2.1, Bool.and_self, true_and]
      have a1 := h1.2
      have a2 := h2.2
      omega
  intro n
  induction n with
  | zero =>
    intro d h
    cases d with
    | none => exact ⟨rfl, Nat.le_refl _⟩
    | bool b => exact ⟨rfl, Nat.le_refl _⟩
    | int i => exact ⟨rfl, Nat.le_refl _⟩
    | str x => exact ⟨h, Nat.le_refl _⟩
    | bytes b => cases h
    | tuple ds => cases h
    | list ds => cases h
  | succ n ih =>
    intro d h
    cases d with
    | none => exact ⟨rfl, Nat.zero_le _⟩
    | bool b => exact ⟨rfl, Nat.zero_le _⟩
    | int i => exact ⟨rfl, Nat.zero_le _⟩
    | str x => exact ⟨h, Nat.zero_le _⟩
    | bytes b => cases h
    | tuple ds =>
      have q := all n ih ds (List.all_eq_true.mp h)
      have q2 := q.2
      simp only [kqdP, PyData.canLay0, PyData.depth, q.1, true_and]
      omega
    | list ds =>
      have q := all n ih ds (List.all_eq_true.mp h)
      have q2 := q.2
      simp only [kqdP, PyData.canLay0, PyData.depth, q.1, true_and]
      omega
section
variable {prog : Program} {w : World} {A : Around} {E : Value → Shared → Prop} {s : Shared} {h₀ : Heap} {L : Addr} {news : List (Addr × Obj)} {Q : Value → Shared → Prop}
/-- two readings of the same data are not unequal -/
theorem dat_ne {a b : Value} {d : Dat} (N : News h₀ L s.heap news) (h1 : DatIn news a d) (h2 : DatIn news b d) (ok : dOk 8 d = true) (hu : A.units + 64 < cLine) (h : Q (.bool false) s) : wpAny (model prog w) A (compareOp .NotEq a b) Q E s := by
  obtain ⟨as, ra⟩ := d_in N 8 h1 ok
  obtain ⟨bs, rb⟩ := d_in N 8 h2 ok
  have la := d_lay 8 d ok
  have sh : SeqAt.shaped (kqdP d) = true := by unfold SeqAt.shaped; rw [la.1, Bool.true_and]; exact decide_eq_true (Nat.le_trans la.2 (by decide))
  exact ne_dataH ra rb sh sh hu (by rw [SeqAt.eqv_refl _ la.1]; exact h)
end
noncomputable def RowOk (r : Row) : Prop := dOk 7 (rowDat r) = true
theorem RowOk.up {r : Row} (h : RowOk r) : dOk 8 (rowDat r) = true := by
  unfold RowOk at h
  cases r with
  | lot prs neg => simpa [rowDat, dOk, pairDat] using h
  | _ => first | rfl | simpa [rowDat, dOk] using h
theorem RowOk.upL {rs : List Row} (h : ∀ r ∈ rs, RowOk r) : dOk 8 (.list (rs.map rowDat)) = true := by
  simp only [dOk, List.all_eq_true, List.mem_map]
  rintro _ ⟨r, hr, rfl⟩
  exact h r hr
end Mine
end

section
set_option maxRecDepth 100000
set_option maxHeartbeats 8000000
namespace Mine

noncomputable abbrev RowPost (rest : List (Addr × Obj)) (r : Row) (x : Value) (led' : List (Addr × Obj)) : Prop :=
  ∃ q vs n, x = .ref q ∧ led' = (q, tupN vs n) :: rest ∧ (∀ z ∈ rest, z.1 < q) ∧ DatIn led' x (rowDat r)
section
local macro_rules | `(tactic| k_handed) => `(tactic| assumption)
theorem lawrow_core (w : World) (mean : ExcName → Option Value) (mg mb : Str → Option Value) (rest : List (Addr × Obj)) (xx d : Addr) (ka kb kc kd : Tok) (v1 v2 v3 v4 : Value) (g1 : handedIn v1 = true) (g2 : handedIn v2 = true) (g3 : handedIn v3 = true) (g4 : handedIn v4 = true)
    (h1 : (xx, instObj 39 d) ∈ rest) (h2 : (d, partDict w ka kb kc kd v1 v2 v3 v4) ∈ rest) :
    TellsX w mean mg mb 106 10 100 rest [.ref xx] (fun x led' => ∃ q n, x = .ref q ∧ led' = (q, tupN [v1, v2, v3, v4] n) :: rest ∧ (∀ z ∈ rest, z.1 < q)) := by
  w_top off
  unfold TellsX; k_fill
  intro dp un gd cn cs fa ccd cl outer A₀ base h₀ L m s Q E B F X N T hk hd hu hret
  refine wpAny_call ?_
  k_dflt ktr_enter
  k_steps
  refine' hret _ _ _ _ ?g1 ?g2 ?g3
  case g1 => k_asm
  case g2 => k_asm
  case g3 => exact ⟨_, _, rfl, rfl, by assumption⟩
end
/-- a Part's four values, and what they say as a row -/
inductive PartV (w : World) (news : List (Addr × Obj)) (v : Value) (r : Row) : Prop
  | mk (xx d : Addr) (ka kb kc kd : Tok) (v1 v2 v3 v4 : Value) (hv : v = .ref xx) (h1 : (xx, instObj 39 d) ∈ news) (h2 : (d, partDict w ka kb kc kd v1 v2 v3 v4) ∈ news) (g1 : handedIn v1 = true) (g2 : handedIn v2 = true) (g3 : handedIn v3 = true) (g4 : handedIn v4 = true)
      (hD : ∀ q n news', (∀ p ∈ news, p ∈ news') → (q, tupN [v1, v2, v3, v4] n) ∈ news' → DatIn news' (.ref q) (rowDat r))
theorem part_dat {w : World} {news : List (Addr × Obj)} {v : Value} {r : Row} (h : PartIn w news v r) : PartV w news v r := by
  cases h with
  | any a b => exact ⟨_, _, _, _, _, _, _, _, _, _, rfl, a, b, rfl, rfl, rfl, rfl, fun q n news' hs hq => .tuple hq (.cons (.int _ _) (.cons .none (.cons .none (.cons (.bool _) .nil))))⟩
  | one a b => exact ⟨_, _, _, _, _, _, _, _, _, _, rfl, a, b, rfl, rfl, rfl, rfl, fun q n news' hs hq => .tuple hq (.cons (.int _ _) (.cons .none (.cons .none (.cons (.bool _) .nil))))⟩
  | sign a b => exact ⟨_, _, _, _, _, _, _, _, _, _, rfl, a, b, rfl, rfl, rfl, rfl, fun q n news' hs hq => .tuple hq (.cons (.int _ _) (.cons (.str _ _) (.cons .none (.cons (.bool _) .nil))))⟩
  | lot a b c d => exact ⟨_, _, _, _, _, _, _, _, _, _, rfl, a, b, rfl, rfl, rfl, rfl, fun q n news' hs hq => .tuple hq (.cons (.int _ _) (.cons .none (.cons (.list (hs _ c) (d.mono hs)) (.cons (.bool _) .nil))))⟩
theorem lawrow_spec {w : World} {mean : ExcName → Option Value} {mg mb : Str → Option Value} {rest : List (Addr × Obj)} {v : Value} {r : Row} (h : PartIn w rest v r) :
    TellsX w mean mg mb 106 10 100 rest [v] (RowPost rest r) := by
  obtain ⟨xx, d, ka, kb, kc, kd, v1, v2, v3, v4, rfl, h1, h2, g1, g2, g3, g4, hD⟩ := part_dat h
  exact (lawrow_core w mean mg mb rest xx d ka kb kc kd v1 v2 v3 v4 g1 g2 g3 g4 h1 h2).mono (fun _ h => h) (by rintro _ _ ⟨q, n, rfl, rfl, hq⟩; exact ⟨_, fun _ h => h, _, _, _, rfl, rfl, hq, hD q n _ (fun _ h => .tail _ h) (.head _)⟩)
end Mine
end

section
set_option maxRecDepth 100000
set_option maxHeartbeats 8000000
namespace Mine
section
local macro_rules | `(tactic| walk_at "truthy bool") => `(tactic| ((with_reducible show wpAny _ _ (truthy (Value.bool false)) _ _ _); (refine wpAny_truthy_bool ?_); (with_reducible refine Eq.mpr (if_neg Bool.false_ne_true) ?_)))
local macro_rules | `(tactic| walk_at "truthy bool") => `(tactic| ((with_reducible show wpAny _ _ (truthy (Value.bool true)) _ _ _); (refine wpAny_truthy_bool ?_); (with_reducible refine Eq.mpr (if_pos rfl) ?_)))
local macro_rules | `(tactic| walk_at "compareOp NotEq ref ref") => `(tactic| refine stop_elim ?_)
theorem partright_any (w : World) (mean : ExcName → Option Value) (mg mb : Str → Option Value) (rest : List (Addr × Obj)) (xx rw : Addr) (t : Tok) (n : Nat) (r : Row)
    (h1 : PartIn w rest (.ref xx) r) (h2 : DatIn rest (.ref rw) (rowDat r)) (hok : dOk 8 (rowDat r) = true) (h3 : (rw, tupN [.int 0 t, .none, .none, .bool false] n) ∈ rest) :
    TellsX w mean mg mb 111 20 200 rest [.ref xx, .ref rw] (fun x led' => x = .bool true ∧ led' = rest) := by
  w_top off
  unfold TellsX; k_fill
  intro dp un gd cn cs fa ccd cl outer A₀ base h₀ L m s Q E B F X N T hk hd hu hret
  refine wpAny_call ?_
  k_dflt (refine' code_defC ?k1 ?k2 ?k3 ?k4 ?k5 ?kA ?kF ?kK ?k6 ?k7 ?k8 ?k9 ?kB ?kD ?_ ?c2 ?c3 ?c4; (case kA => exact rfl); (case kF => exact rfl); (case kK => assumption); (case k1 => k_asm); (case k2 => k_asm); (case k3 => k_asm); (case k4 => k_asm); (case k5 => k_asm); (case k6 => k_is); (case k7 => k_is); (case k8 => ktr_room); (case k9 => exact BindsTo.of_eq rfl); (case kB => exact rfl); (case kD => decide +kernel); (case c2 => exact rfl); (case c3 => exact rfl); (case c4 => exact rfl); k_whole; intro g' L' h' tk' cells' FG' F' N' Y' B' X' T' l1; (try k_lt l1); k_cells Y'; (try simp only [List.cons_append, List.nil_append] at N'); (try dsimp only); (try k_fold))
  (((try k_fold); k_steps); repeat' (first | (show wpAny _ _ _ _ _ _; k_here; (with_reducible show wpAny _ _ (call (Value.ref 99) [Value.ref _, Value.str _ _]) _ _ _); k_dflt (refine' tellsX_use ?yk1 ?yk2 ?yk3 ?yk4 ?yk5 ?yk6 (rtakes_spec ?yu ?yv) ?ykd ?yku ?_; (case yk1 => k_asm); (case yk2 => k_asm); (case yk3 => k_asm); (case yk4 => k_asm); (case yk5 => k_asm); (case yk6 => exact rfl); (case yu => (refine DatIn.mono ?_ (by assumption); intro p hp; repeat' (first | exact hp | refine List.Mem.tail _ ?_))); (case yv => assumption); (case ykd => ktr_room); (case yku => ktr_units)); intro r' l' h' tk' F' N' hp'; obtain ⟨hr', hl'⟩ := hp'; subst hr'; subst hl'; (try dsimp only at N'); (try dsimp only); (try k_sweep); k_steps) | (show wpAny _ _ _ _ _ _; k_here; (with_reducible show wpAny _ _ (call (Value.ref 36) [Value.ref _, Value.str _ _]) _ _ _); k_dflt (refine' tellsX_use ?yk1 ?yk2 ?yk3 ?yk4 ?yk5 ?yk6 (takes_spec ?yu ?yv) ?ykd ?yku ?_; (case yk1 => k_asm); (case yk2 => k_asm); (case yk3 => k_asm); (case yk4 => k_asm); (case yk5 => k_asm); (case yk6 => exact rfl); (case yu => (refine PartIn.mono ?_ (by assumption); intro p hp; repeat' (first | exact hp | refine List.Mem.tail _ ?_))); (case yv => assumption); (case ykd => ktr_room); (case yku => ktr_units)); intro r' l' h' tk' F' N' hp'; obtain ⟨hr', hl'⟩ := hp'; subst hr'; subst hl'; (try dsimp only at N'); (try dsimp only); (try k_sweep); k_steps) | (show wpAny _ _ _ _ _ _; k_here; (with_reducible show wpAny _ _ (compareOp CmpOp.NotEq (Value.ref _) (Value.ref _)) _ _ _); k_dflt (refine' dat_ne ?yk1 ?yk2 ?yk3 ?yk4 ?yk5 ?_; (case yk1 => k_asm); (case yk2 => assumption); (case yk3 => (refine DatIn.mono ?_ (by assumption); intro p hp; repeat' (first | exact hp | refine List.Mem.tail _ ?_))); (case yk4 => assumption); (case yk5 => (simp only [units_deeper, units_caller]; omega))); k_steps) | (show wpAny _ _ _ _ _ _; k_here; (with_reducible show wpAny _ _ (call (Value.ref 106) [Value.ref _]) _ _ _); k_dflt (refine' tellsX_use ?yk1 ?yk2 ?yk3 ?yk4 ?yk5 ?yk6 (lawrow_spec ?yu) ?ykd ?yku ?_; (case yk1 => k_asm); (case yk2 => k_asm); (case yk3 => k_asm); (case yk4 => k_asm); (case yk5 => k_asm); (case yk6 => exact rfl); (case yu => (refine PartIn.mono ?_ (by assumption); intro p hp; repeat' (first | exact hp | refine List.Mem.tail _ ?_))); (case ykd => ktr_room); (case yku => ktr_units)); intro r' l' h' tk' F' N' hp'; obtain ⟨q', vs', n', hr', hl', hq', hDn⟩ := hp'; subst hr'; subst hl'; (try dsimp only at N'); (try dsimp only); (try k_sweep); k_steps)))
  refine' hret _ rest _ _ ?g1 ?g2 ?g3
  case g1 => k_asm
  case g2 => rename News _ _ _ _ => N7; exact kst_newsOf N7 (fun p hp => by repeat' (first | exact hp | refine List.Mem.tail _ ?_))
  case g3 => exact ⟨rfl, rfl⟩
section
open LCg LCt
variable {prog : Program} {w : World} {A : Around} {s : Shared} {h₀ : Heap} {L : Addr} {m : Str → Option Value} {env : Env}
/-- a comprehension none of whose turns passes its test -/
theorem rest_none {ct elt : Expr} {x : Str} {scope : Scope} {cl : List (Str × Addr)} {S : List (Addr × Obj) → Prop} {P : Nat → Value → Prop} {Fin : List Value → List (Addr × Obj) → Prop} {news : List (Addr × Obj)} {n : Nat} (hS : S news) (hfin : Fin [] news)
    (step : ∀ (i : Nat) (v : Value) (I : Addr) (oI : Obj) (C : Addr) (oC : Obj) (D : Addr) (m₂ : Str → Option Value) (h : Heap) (tk : Tok) (Qb : Bool → Shared → Prop) (E' : Value → Shared → Prop), i < n → P i v → NsObj oC m₂ → m₂ x = some v → Fr h₀ L h m →
      News h₀ L h ((I, oI) :: (C, oC) :: (D, lst []) :: news) → ((∀ p ∈ news, @Ne Nat p.1 I) ∧ (∀ p ∈ news, @Ne Nat p.1 C) ∧ (∀ p ∈ news, @Ne Nat p.1 D)) → ((@Ne Nat I C) ∧ (@Ne Nat I D) ∧ (@Ne Nat C D)) →
      (∀ h' tk', Fr h₀ L h' m → News h₀ L h' ((I, oI) :: (C, oC) :: (D, lst []) :: news) → Qb false { s with heap := h', toks := tk' }) →
      wpAny (model prog w) A (isTrue ct (compEnvC scope cl C env) (eval ct (compEnvC scope cl C env))) Qb E' { s with heap := h, toks := tk }) :
    ∀ (k i : Nat), i + k = n → CompRestT prog w A h₀ L m env ct elt x scope cl s S P Fin k i [] news
  | 0, _, _ => CompRestT.zero hfin
  | k + 1, i, hik => CompRestT.succ fun v I oI C oC D m₂ h tk E' h1 h2 h3 h4 h5 h6 h7 =>
      step i v I oI C oC D m₂ h tk _ E' (by omega) h1 h2 h3 h4 h5 ⟨fun p hp => (h6.mem p hp).1, fun p hp => (h6.mem p hp).2.1, fun p hp => (h6.mem p hp).2.2⟩ h7 fun h' tk' F' N' => by
        show if false = true then _ else _
        rw [if_neg Bool.false_ne_true]
        exact ⟨h', tk', news, rfl, F', N', h6, hS, rest_none hS hfin step k (i + 1) (by omega)⟩
end
section
local macro_rules | `(tactic| walk_at "eval ListComp") => `(tactic| (k_here; k_dflt (refine LCt.ListComp_T (F₀ := by k_asm) (by with_unfolding_all rfl) (by decide) (by rfl) (by decide) (by rfl) ?_); k_dflt lct_toSrc))
local macro_rules | `(tactic| walk_at "CompSrcT") => `(tactic| refine stop_elim ?_)
theorem partright_some (w : World) (mean : ExcName → Option Value) (mg mb : Str → Option Value) (rest : List (Addr × Obj)) (xx rw : Addr) (i : Int) (t : Tok) (v1 v2 v3 : Value) (n : Nat) (r : Row) (xd : Addr) (ka kb kc kd : Tok) (p1 p2 p3 p4 : Value) (hx1 : (xx, instObj 39 xd) ∈ rest) (hx2 : (xd, partDict w ka kb kc kd p1 p2 p3 p4) ∈ rest)
    (h1 : PartIn w rest (.ref xx) r) (h2 : DatIn rest (.ref rw) (rowDat r)) (hok : dOk 8 (rowDat r) = true) (h3 : (rw, tupN [.int i t, v1, v2, v3] n) ∈ rest) (hi : i ≠ 0) (hr : r ≠ .any) :
    TellsX w mean mg mb 111 20 200 rest [.ref xx, .ref rw] (fun x led' => x = .bool true ∧ led' = rest) := by
  unfold TellsX; k_fill
  intro dp un gd cn cs fa ccd cl outer A₀ base h₀ L m s Q E B F X N T hk hd hu hret
  refine wpAny_call ?_
  k_dflt (refine' code_defC ?k1 ?k2 ?k3 ?k4 ?k5 ?kA ?kF ?kK ?k6 ?k7 ?k8 ?k9 ?kB ?kD ?_ ?c2 ?c3 ?c4; (case kA => exact rfl); (case kF => exact rfl); (case kK => assumption); (case k1 => k_asm); (case k2 => k_asm); (case k3 => k_asm); (case k4 => k_asm); (case k5 => k_asm); (case k6 => k_is); (case k7 => k_is); (case k8 => ktr_room); (case k9 => exact BindsTo.of_eq rfl); (case kB => exact rfl); (case kD => decide +kernel); (case c2 => exact rfl); (case c3 => exact rfl); (case c4 => exact rfl); k_whole; intro g' L' h' tk' cells' FG' F' N' Y' B' X' T' l1; (try k_lt l1); k_cells Y'; (try simp only [List.cons_append, List.nil_append] at N'); (try dsimp only); (try k_fold))
  (((try k_fold); k_steps); repeat' (first | (show wpAny _ _ _ _ _ _; k_here; (with_reducible show wpAny _ _ (call (Value.ref 99) [Value.ref _, Value.str _ _]) _ _ _); k_dflt (refine' tellsX_use ?yk1 ?yk2 ?yk3 ?yk4 ?yk5 ?yk6 (rtakes_spec ?yu ?yv) ?ykd ?yku ?_; (case yk1 => k_asm); (case yk2 => k_asm); (case yk3 => k_asm); (case yk4 => k_asm); (case yk5 => k_asm); (case yk6 => exact rfl); (case yu => (refine DatIn.mono ?_ (by assumption); intro p hp; repeat' (first | exact hp | refine List.Mem.tail _ ?_))); (case yv => assumption); (case ykd => ktr_room); (case yku => ktr_units)); intro r' l' h' tk' F' N' hp'; obtain ⟨hr', hl'⟩ := hp'; subst hr'; subst hl'; (try dsimp only at N'); (try dsimp only); (try k_sweep); k_steps) | (show wpAny _ _ _ _ _ _; k_here; (with_reducible show wpAny _ _ (call (Value.ref 36) [Value.ref _, Value.str _ _]) _ _ _); k_dflt (refine' tellsX_use ?yk1 ?yk2 ?yk3 ?yk4 ?yk5 ?yk6 (takes_spec ?yu ?yv) ?ykd ?yku ?_; (case yk1 => k_asm); (case yk2 => k_asm); (case yk3 => k_asm); (case yk4 => k_asm); (case yk5 => k_asm); (case yk6 => exact rfl); (case yu => (refine PartIn.mono ?_ (by assumption); intro p hp; repeat' (first | exact hp | refine List.Mem.tail _ ?_))); (case yv => assumption); (case ykd => ktr_room); (case yku => ktr_units)); intro r' l' h' tk' F' N' hp'; obtain ⟨hr', hl'⟩ := hp'; subst hr'; subst hl'; (try dsimp only at N'); (try dsimp only); (try k_sweep); k_steps) | (show wpAny _ _ _ _ _ _; k_here; (with_reducible show wpAny _ _ (compareOp CmpOp.NotEq (Value.ref _) (Value.ref _)) _ _ _); k_dflt (refine' dat_ne ?yk1 ?yk2 ?yk3 ?yk4 ?yk5 ?_; (case yk1 => k_asm); (case yk2 => assumption); (case yk3 => (refine DatIn.mono ?_ (by assumption); intro p hp; repeat' (first | exact hp | refine List.Mem.tail _ ?_))); (case yk4 => assumption); (case yk5 => (simp only [units_deeper, units_caller]; omega))); k_steps) | (show wpAny _ _ _ _ _ _; k_here; (with_reducible show wpAny _ _ (call (Value.ref 106) [Value.ref _]) _ _ _); k_dflt (refine' tellsX_use ?yk1 ?yk2 ?yk3 ?yk4 ?yk5 ?yk6 (lawrow_spec ?yu) ?ykd ?yku ?_; (case yk1 => k_asm); (case yk2 => k_asm); (case yk3 => k_asm); (case yk4 => k_asm); (case yk5 => k_asm); (case yk6 => exact rfl); (case yu => (refine PartIn.mono ?_ (by assumption); intro p hp; repeat' (first | exact hp | refine List.Mem.tail _ ?_))); (case ykd => ktr_room); (case yku => ktr_units)); intro r' l' h' tk' F' N' hp'; obtain ⟨q', vs', n', hr', hl', hq', hDn⟩ := hp'; subst hr'; subst hl'; (try dsimp only at N'); (try dsimp only); (try k_sweep); k_steps)))
  · exact absurd (by assumption) hi
  · show LCt.CompSrcT _ _ _ _ _ _ _ _ _ _ _ _ _ _ _
    refine LCt.CompSrcT.ledger (by rfl) (by k_asm) (by k_asm) (by k_mem) (by first | size_fits | exact Nat.le_of_ble_eq_true rfl) ?_
    intro g7
    refine rest_none ?hS ?hfin ?step _ _ rfl
    case hS => exact Or.inr ⟨_, by k_mem, rfl, _, rfl⟩
    case hfin =>
      (((try k_fold); k_steps); repeat' (first | (show wpAny _ _ _ _ _ _; k_here; (with_reducible show wpAny _ _ (call (Value.ref 99) [Value.ref _, Value.str _ _]) _ _ _); k_dflt (refine' tellsX_use ?yk1 ?yk2 ?yk3 ?yk4 ?yk5 ?yk6 (rtakes_spec ?yu ?yv) ?ykd ?yku ?_; (case yk1 => k_asm); (case yk2 => k_asm); (case yk3 => k_asm); (case yk4 => k_asm); (case yk5 => k_asm); (case yk6 => exact rfl); (case yu => (refine DatIn.mono ?_ (by assumption); intro p hp; repeat' (first | exact hp | refine List.Mem.tail _ ?_))); (case yv => assumption); (case ykd => ktr_room); (case yku => ktr_units)); intro r' l' h' tk' F' N' hp'; obtain ⟨hr', hl'⟩ := hp'; subst hr'; subst hl'; (try dsimp only at N'); (try dsimp only); (try k_sweep); k_steps) | (show wpAny _ _ _ _ _ _; k_here; (with_reducible show wpAny _ _ (call (Value.ref 36) [Value.ref _, Value.str _ _]) _ _ _); k_dflt (refine' tellsX_use ?yk1 ?yk2 ?yk3 ?yk4 ?yk5 ?yk6 (takes_spec ?yu ?yv) ?ykd ?yku ?_; (case yk1 => k_asm); (case yk2 => k_asm); (case yk3 => k_asm); (case yk4 => k_asm); (case yk5 => k_asm); (case yk6 => exact rfl); (case yu => (refine PartIn.mono ?_ (by assumption); intro p hp; repeat' (first | exact hp | refine List.Mem.tail _ ?_))); (case yv => assumption); (case ykd => ktr_room); (case yku => ktr_units)); intro r' l' h' tk' F' N' hp'; obtain ⟨hr', hl'⟩ := hp'; subst hr'; subst hl'; (try dsimp only at N'); (try dsimp only); (try k_sweep); k_steps) | (show wpAny _ _ _ _ _ _; k_here; (with_reducible show wpAny _ _ (compareOp CmpOp.NotEq (Value.ref _) (Value.ref _)) _ _ _); k_dflt (refine' dat_ne ?yk1 ?yk2 ?yk3 ?yk4 ?yk5 ?_; (case yk1 => k_asm); (case yk2 => assumption); (case yk3 => (refine DatIn.mono ?_ (by assumption); intro p hp; repeat' (first | exact hp | refine List.Mem.tail _ ?_))); (case yk4 => assumption); (case yk5 => (simp only [units_deeper, units_caller]; omega))); k_steps) | (show wpAny _ _ _ _ _ _; k_here; (with_reducible show wpAny _ _ (call (Value.ref 106) [Value.ref _]) _ _ _); k_dflt (refine' tellsX_use ?yk1 ?yk2 ?yk3 ?yk4 ?yk5 ?yk6 (lawrow_spec ?yu) ?ykd ?yku ?_; (case yk1 => k_asm); (case yk2 => k_asm); (case yk3 => k_asm); (case yk4 => k_asm); (case yk5 => k_asm); (case yk6 => exact rfl); (case yu => (refine PartIn.mono ?_ (by assumption); intro p hp; repeat' (first | exact hp | refine List.Mem.tail _ ?_))); (case ykd => ktr_room); (case yku => ktr_units)); intro r' l' h' tk' F' N' hp'; obtain ⟨q', vs', n', hr', hl', hq', hDn⟩ := hp'; subst hr'; subst hl'; (try dsimp only at N'); (try dsimp only); (try k_sweep); k_steps)))
      refine' hret _ rest _ _ ?g1 ?g2 ?g3
      case g1 => k_asm
      case g2 => rename News _ _ _ _ => N7; exact kst_newsOf N7 (fun p hp => by repeat' (first | exact hp | refine List.Mem.tail _ ?_))
      case g3 => exact ⟨rfl, rfl⟩
    case step =>
      intro i v I oI C oC D m₂ h tk Qb E' _ hv hC hx F' N' hoff hne hend
      have hm := List.mem_of_getElem? (List.getElem?_toArray.symm.trans hv)
      obtain ⟨c, tc, hvc, _⟩ := chars_of [97, 98, 99, 100, 101, 93, 91, 94, 45, 33, 42, 233] (by kernel_rfl!) hm
      subst hvc
      clear hm hv
      (((try k_fold); k_steps); repeat' (first | (show wpAny _ _ _ _ _ _; k_here; (with_reducible show wpAny _ _ (call (Value.ref 99) [Value.ref _, Value.str _ _]) _ _ _); k_dflt (refine' tellsX_use ?yk1 ?yk2 ?yk3 ?yk4 ?yk5 ?yk6 (rtakes_spec ?yu ?yv) ?ykd ?yku ?_; (case yk1 => k_asm); (case yk2 => k_asm); (case yk3 => k_asm); (case yk4 => k_asm); (case yk5 => k_asm); (case yk6 => exact rfl); (case yu => (refine DatIn.mono ?_ (by assumption); intro p hp; repeat' (first | exact hp | refine List.Mem.tail _ ?_))); (case yv => assumption); (case ykd => ktr_room); (case yku => ktr_units)); intro r' l' h' tk' F' N' hp'; obtain ⟨hr', hl'⟩ := hp'; subst hr'; subst hl'; (try dsimp only at N'); (try dsimp only); (try k_sweep); k_steps) | (show wpAny _ _ _ _ _ _; k_here; (with_reducible show wpAny _ _ (call (Value.ref 36) [Value.ref _, Value.str _ _]) _ _ _); k_dflt (refine' tellsX_use ?yk1 ?yk2 ?yk3 ?yk4 ?yk5 ?yk6 (takes_spec ?yu ?yv) ?ykd ?yku ?_; (case yk1 => k_asm); (case yk2 => k_asm); (case yk3 => k_asm); (case yk4 => k_asm); (case yk5 => k_asm); (case yk6 => exact rfl); (case yu => (refine PartIn.mono ?_ (by assumption); intro p hp; repeat' (first | exact hp | refine List.Mem.tail _ ?_))); (case yv => assumption); (case ykd => ktr_room); (case yku => ktr_units)); intro r' l' h' tk' F' N' hp'; obtain ⟨hr', hl'⟩ := hp'; subst hr'; subst hl'; (try dsimp only at N'); (try dsimp only); (try k_sweep); k_steps) | (show wpAny _ _ _ _ _ _; k_here; (with_reducible show wpAny _ _ (compareOp CmpOp.NotEq (Value.ref _) (Value.ref _)) _ _ _); k_dflt (refine' dat_ne ?yk1 ?yk2 ?yk3 ?yk4 ?yk5 ?_; (case yk1 => k_asm); (case yk2 => assumption); (case yk3 => (refine DatIn.mono ?_ (by assumption); intro p hp; repeat' (first | exact hp | refine List.Mem.tail _ ?_))); (case yk4 => assumption); (case yk5 => (simp only [units_deeper, units_caller]; omega))); k_steps) | (show wpAny _ _ _ _ _ _; k_here; (with_reducible show wpAny _ _ (call (Value.ref 106) [Value.ref _]) _ _ _); k_dflt (refine' tellsX_use ?yk1 ?yk2 ?yk3 ?yk4 ?yk5 ?yk6 (lawrow_spec ?yu) ?ykd ?yku ?_; (case yk1 => k_asm); (case yk2 => k_asm); (case yk3 => k_asm); (case yk4 => k_asm); (case yk5 => k_asm); (case yk6 => exact rfl); (case yu => (refine PartIn.mono ?_ (by assumption); intro p hp; repeat' (first | exact hp | refine List.Mem.tail _ ?_))); (case ykd => ktr_room); (case yku => ktr_units)); intro r' l' h' tk' F' N' hp'; obtain ⟨q', vs', n', hr', hl', hq', hDn⟩ := hp'; subst hr'; subst hl'; (try dsimp only at N'); (try dsimp only); (try k_sweep); k_steps)))
      rw [show (takesR r c != takesR r c) = false by simp]
      exact hend _ _ (by k_asm) (by k_asm)
end
end
theorem partright_spec {w : World} {mean : ExcName → Option Value} {mg mb : Str → Option Value} {rest : List (Addr × Obj)} {v u : Value} {r : Row}
    (h1 : PartIn w rest v r) (h2 : DatIn rest u (rowDat r)) (hok : dOk 8 (rowDat r) = true) :
    TellsX w mean mg mb 111 20 200 rest [v, u] (fun x led' => x = .bool true ∧ led' = rest) := by
  cases h1 with
  | any a b =>
    obtain ⟨q, n, v1, v2, v3, v4, rfl, hm, ⟨t1, rfl⟩, rfl, rfl, rfl⟩ := in_tup4 h2
    exact partright_any w mean mg mb rest _ _ _ _ _ (.any a b) h2 hok hm
  | one a b =>
    obtain ⟨q, n, v1, v2, v3, v4, rfl, hm, ⟨t1, rfl⟩, _⟩ := in_tup4 h2
    exact partright_some w mean mg mb rest _ _ _ _ _ _ _ _ _ _ _ _ _ _ _ _ _ _ a b (.one a b) h2 hok hm (by decide) (fun h => nomatch h)
  | sign a b =>
    obtain ⟨q, n, v1, v2, v3, v4, rfl, hm, ⟨t1, rfl⟩, _⟩ := in_tup4 h2
    exact partright_some w mean mg mb rest _ _ _ _ _ _ _ _ _ _ _ _ _ _ _ _ _ _ a b (.sign a b) h2 hok hm (by decide) (fun h => nomatch h)
  | lot a b c d =>
    obtain ⟨q, n, v1, v2, v3, v4, rfl, hm, ⟨t1, rfl⟩, _⟩ := in_tup4 h2
    exact partright_some w mean mg mb rest _ _ _ _ _ _ _ _ _ _ _ _ _ _ _ _ _ _ a b (.lot a b c d) h2 hok hm (by decide) (fun h => nomatch h)
end Mine
end

section
set_option maxRecDepth 100000
set_option maxHeartbeats 8000000
namespace Mine

theorem four_len {x : Str} (h : x.cps.toList ∈ [[], [94], [93], [94, 93]]) : x.length ≤ 2 := by
  have e : x.length = x.cps.toList.length := (Array.length_toList).symm
  rw [e]
  simp only [List.mem_cons, List.not_mem_nil, or_false] at h
  rcases h with h | h | h | h <;> rw [h] <;> decide
theorem scan_open : ∀ (n : Nat) (l : List Nat), l.length ≤ n → 93 ∉ l → scan l = none
  | _, [], _, _ => scan_nil
  | 0, _ :: _, h, _ => by simp at h
  | n + 1, c :: r, hn, h => by
    rw [List.length_cons] at hn
    have hc : c ≠ 93 := fun e => h (e ▸ .head _)
    have hr' : 93 ∉ r := fun e => h (.tail _ e)
    by_cases hr : ∃ e r', r = 45 :: e :: r' ∧ e ≠ 93
    · obtain ⟨e, r', rfl, he⟩ := hr
      rw [scan_range hc he, scan_open n r' (by rw [List.length_cons, List.length_cons] at hn; omega) (fun q => hr' (.tail _ (.tail _ q)))]
      rfl
    · rw [scan_one hc (fun e r' h' => by
        by_cases he : e = 93
        · exact he
        · exact absurd ⟨e, r', h', he⟩ hr), scan_open n r (by omega) hr']
      rfl
theorem lot_open {y z : List Nat} (hy : y = [] ∨ y = [94] ∨ y = [93] ∨ y = [94, 93]) (hz : 93 ∉ z) : lotParse (y ++ z) = none := by
  unfold lotParse
  have key : 93 ∉ (y ++ z).drop (k1 (y ++ z) + k2 (y ++ z)) := by
    rcases hy with rfl | rfl | rfl | rfl
    · exact fun h => hz (List.mem_of_mem_drop h)
    · have e : k1 ([94] ++ z) = 1 := rfl
      rw [e, show 1 + k2 ([94] ++ z) = k2 ([94] ++ z) + 1 by omega]
      show 93 ∉ z.drop _
      exact fun h => hz (List.mem_of_mem_drop h)
    · have e : k1 ([93] ++ z) = 0 := rfl
      have e2 : k2 ([93] ++ z) = 1 := rfl
      rw [e, e2]
      exact hz
    · have e : k1 ([94, 93] ++ z) = 1 := rfl
      have e2 : k2 ([94, 93] ++ z) = 1 := rfl
      rw [e, e2]
      exact hz
  rw [scan_open _ _ (Nat.le_refl _) key]
  rfl
theorem ofs_br : Str.ofString "[" = ⟨#[91]⟩ := by decide +kernel
/-- the text of _law_is_open -/
noncomputable def OpenT (P : List Nat) (t : Str) : Prop := ∃ y z, t.cps.toList = P ++ 91 :: (y ++ z) ∧ (y = [] ∨ y = [94] ∨ y = [93] ∨ y = [94, 93]) ∧ 93 ∉ z
theorem OpenT.start {P x : Str} (h : x.cps.toList ∈ [[], [94], [93], [94, 93]]) : OpenT P.cps.toList (P ++ Str.ofString "[" ++ x) := by
  refine ⟨x.cps.toList, [], ?_, by simpa using h, fun h => nomatch h⟩
  rw [Str.cps_append, Array.toList_append, Str.cps_append, Array.toList_append, ofs_br]
  simp
theorem OpenT.snoc {P : List Nat} {t : Str} {c : Nat} (h : OpenT P t) (hc : c ∈ [97, 45, 91, 42, 94]) : OpenT P (t ++ (⟨#[c]⟩ : Str)) := by
  obtain ⟨y, z, e, hy, hz⟩ := h
  refine ⟨y, z ++ [c], ?_, hy, ?_⟩
  · rw [Str.cps_append, Array.toList_append, e]
    simp
  · rw [List.mem_append]
    rintro (q | q)
    · exact hz q
    · simp at hc q
      omega
theorem OpenT.drop {P : Str} {t : Str} (h : OpenT P.cps.toList t) : lotParse (t.cps.toList.drop ((P.length : Int) + 1).toNat) = none := by
  obtain ⟨y, z, e, hy, hz⟩ := h
  have e2 : ((P.length : Int) + 1).toNat = P.cps.toList.length + 1 := by
    rw [Array.length_toList]
    show _ = P.length + 1
    omega
  rw [e, e2, show P.cps.toList ++ 91 :: (y ++ z) = (P.cps.toList ++ [91]) ++ (y ++ z) by simp, List.drop_left' (by simp)]
  exact lot_open hy hz
theorem OpenT.len {P : Str} {t : Str} (h : OpenT P.cps.toList t) : P.length + 1 ≤ t.length := by
  obtain ⟨y, z, e, _, _⟩ := h
  have := congrArg List.length e
  rw [Array.length_toList, List.length_append, Array.length_toList] at this
  show P.cps.size + 1 ≤ t.cps.size
  simp at this
  omega
theorem OpenT.gparse {P : List Nat} {rows : List Row} {t : Str} (h : OpenT P t) (hP : ∀ rest, gparse (P ++ rest) = (Mine.gparse rest).map (rows ++ ·)) : Mine.gparse t.cps.toList = none := by
  obtain ⟨y, z, e, hy, hz⟩ := h
  rw [e, hP, gparse_lot, lot_open hy hz]
  rfl
theorem glob_none {w : World} {mean : ExcName → Option Value} {mg mb : Str → Option Value} {rest : List (Addr × Obj)} {x : Str} {tx : Tok} (hx : x.length ≤ 1000) (hg : gparse x.cps.toList = none) :
    TellsX w mean mg mb 57 30 300 rest [.str x tx] (fun r led' => r = .none ∧ led' = rest) :=
  (glob_core w mean mg mb rest x tx hx).mono (fun _ h => h) (by
    rintro r l (⟨_, h1, h2⟩ | ⟨_, _, _, _, _, _, h, _⟩)
    · exact ⟨l, fun _ h => h, h1, h2⟩
    · rw [hg] at h; cases h)
theorem lotat_none {w : World} {mean : ExcName → Option Value} {mg mb : Str → Option Value} {rest : List (Addr × Obj)} {x : Str} {tx : Tok} {at0 : Int} {ta : Tok} (hx : x.length ≤ 1000) (h0 : 0 ≤ at0) (h1 : at0 ≤ x.length)
    (hg : lotParse (x.cps.toList.drop at0.toNat) = none) :
    TellsX w mean mg mb 50 20 200 rest [.str x tx, .int at0 ta] (fun r led' => r = .none ∧ led' = rest) :=
  (lotat_core w mean mg mb rest x tx at0 ta hx h0 h1 _ rfl).mono (fun _ h => h) (by
    rintro r l (⟨_, h1, h2⟩ | ⟨_, _, _, _, _, _, _, _, _, _, _, _, _, _, _, h, _⟩)
    · exact ⟨l, fun _ h => h, h1, h2⟩
    · rw [hg] at h; cases h)
section
structure O1 where
  S : Obj
  x : Str
  t : Tok
noncomputable abbrev O1.led (src : Addr) (rest : List (Addr × Obj)) (c : O1) : List (Addr × Obj) := (src, c.S) :: rest
noncomputable abbrev O1.ps (c : O1) : List (Str × Value) := [(Str.ofString "text", .str c.x c.t)]
noncomputable abbrev O1.P (P : Str) (i : Nat) (c : O1) : Prop := SrcIs c.S ∧ OpenT P.cps.toList c.x ∧ c.x.length ≤ P.length + 3 + i
theorem open_core (w : World) (mean : ExcName → Option Value) (mg mb : Str → Option Value) (src : Addr) (S : Obj) (rest : List (Addr × Obj))
    (hs : SrcIs S) (hne : ∀ p ∈ rest, p.1 ≠ src) (P : Str) (tp : Tok) (rows : List Row) (hlen : P.length ≤ 900) (hP : ∀ rest, gparse (P.cps.toList ++ rest) = (gparse rest).map (rows ++ ·)) :
    TellsX w mean mg mb 118 40 400 ((src, S) :: rest) [.ref src, .str P tp]
      (fun r led' => ∃ S', (r = .bool true ∧ SrcIs S') ∧ led' = (src, S') :: rest) := by
  w_top off
  unfold TellsX; k_fill
  intro dp un gd cn cs fa ccd cl outer A₀ base h₀ L m s Q E B F X N T hk hd hu hret
  refine wpAny_call ?_
  k_dflt ktr_enter
  refine cut (pre := [_]) (O1.led src rest) (fun c => [(Str.ofString "source", .ref src), (Str.ofString "pattern", .str P tp), (Str.ofString "text", .str c.x c.t)]) (O1.P P 0) (by assumption) ?_ ?_
  · (((try k_fold); k_steps); repeat' (first | (show wpAny _ _ _ _ _ _; k_here; (with_reducible show wpAny _ _ (call (Value.ref 50) [Value.str _ _, Value.int _ _]) _ _ _); k_dflt (refine' tellsX_use ?yk1 ?yk2 ?yk3 ?yk4 ?yk5 ?yk6 (lotat_none ?yu ?ya ?yb ?yv) ?ykd ?yku ?_; (case yk1 => k_asm); (case yk2 => k_asm); (case yk3 => k_asm); (case yk4 => k_asm); (case yk5 => k_asm); (case yk6 => exact rfl); (case yu => assumption); (case ya => omega); (case yb => omega); (case yv => assumption); (case ykd => ktr_room); (case yku => ktr_units)); intro r' l' h' tk' F' N' hp'; obtain ⟨hr', hl'⟩ := hp'; subst hr'; subst hl'; (try dsimp only at N'); (try dsimp only); (try k_sweep); k_steps) | (show wpAny _ _ _ _ _ _; k_here; (with_reducible show wpAny _ _ (call (Value.ref 57) [Value.str _ _]) _ _ _); k_dflt (refine' tellsX_use ?yk1 ?yk2 ?yk3 ?yk4 ?yk5 ?yk6 (glob_none ?yu ?yv) ?ykd ?yku ?_; (case yk1 => k_asm); (case yk2 => k_asm); (case yk3 => k_asm); (case yk4 => k_asm); (case yk5 => k_asm); (case yk6 => exact rfl); (case yu => assumption); (case yv => assumption); (case ykd => ktr_room); (case yku => ktr_units)); intro r' l' h' tk' F' N' hp'; obtain ⟨hr', hl'⟩ := hp'; subst hr'; subst hl'; (try dsimp only at N'); (try dsimp only); (try k_sweep); k_steps) | (show wpAny _ _ _ _ _ _; k_here; (with_reducible show wpAny _ _ (call (Value.ref 78) [Value.ref _, Value.ref _]) _ _ _); k_dflt (refine' tellsX_use ?yk1 ?yk2 ?yk3 ?yk4 ?yk5 ?yk6 (one_spec ?yu ?ys ?ym ?yn ?yp ?yq) ?ykd ?yku ?_; (case yk1 => k_asm); (case yk2 => k_asm); (case yk3 => k_asm); (case yk4 => k_asm); (case yk5 => k_asm); (case yk6 => exact rfl); (case yu => k_updF); (case ys => assumption); (case ym => k_mem); (case yn => k_ne); (case yp => exact Nat.succ_pos _); (case yq => exact Nat.le_of_ble_eq_true rfl); (case ykd => ktr_room); (case yku => ktr_units)); intro r' l' h' tk' F' N' hp'; obtain ⟨S', hr', hS', hl'⟩ := hp'; subst hl'; (try dsimp only at N'); (try dsimp only); (try k_sweep); (first | (have hc9 := chars_of [97, 45, 91, 42, 94] (by kernel_rfl!) hr'; obtain ⟨c', tc', hc', hcs'⟩ := hc9; clear hr'; subst hc') | (have hc9 := strs_of [[], [94], [93], [94, 93]] (by kernel_rfl!) hr'; obtain ⟨x', tx', hx', hxs'⟩ := hc9; clear hr'; subst hx'; (have hxl' := four_len hxs'))); k_steps) | (show wpAny _ _ _ _ _ _; k_here; (with_reducible show wpAny _ _ (call (Value.ref 71) [Value.ref _, Value.int _ _]) _ _ _); k_dflt (refine' tellsX_use ?yk1 ?yk2 ?yk3 ?yk4 ?yk5 ?yk6 (take_spec ?yu ?ys ?yp ?yq) ?ykd ?yku ?_; (case yk1 => k_asm); (case yk2 => k_asm); (case yk3 => k_asm); (case yk4 => k_asm); (case yk5 => k_asm); (case yk6 => exact rfl); (case yu => k_updF); (case ys => assumption); (case yp => first | omega | decide); (case yq => first | omega | decide); (case ykd => ktr_room); (case yku => ktr_units)); intro r' l' h' tk' F' N' hp'; obtain ⟨S', ⟨d', td', hr', hd0', hd1'⟩, hS', hl'⟩ := hp'; subst hr'; subst hl'; (try dsimp only at N'); (try dsimp only); (try k_sweep); k_steps)))
    refine' cut_end ⟨_, _, _⟩ ?e1 ?e2 ?e3 ?e4 ?e5
    case e1 => k_asm
    case e2 => k_asm
    case e4 => kst_all
    case e3 =>
      refine List.forall_mem_cons.mpr ⟨by k_memK, fun p hp => ?_⟩
      repeat' (first | exact hp | refine List.Mem.tail _ ?_)
    case e5 =>
      refine ⟨by assumption, OpenT.start (by assumption), ?_⟩
      simp only [Str.length_append, ofs_br]
      show P.length + 1 + _ ≤ _
      omega
  · intro c h9 tk9 m9 hP9 F9 N9
    obtain ⟨S1, x1, t1⟩ := c
    obtain ⟨hS1, hx1, hl1⟩ := hP9
    dsimp only [O1.led] at *
    (((try k_fold); k_steps); repeat' (first | (show wpAny _ _ _ _ _ _; k_here; (with_reducible show wpAny _ _ (call (Value.ref 50) [Value.str _ _, Value.int _ _]) _ _ _); k_dflt (refine' tellsX_use ?yk1 ?yk2 ?yk3 ?yk4 ?yk5 ?yk6 (lotat_none ?yu ?ya ?yb ?yv) ?ykd ?yku ?_; (case yk1 => k_asm); (case yk2 => k_asm); (case yk3 => k_asm); (case yk4 => k_asm); (case yk5 => k_asm); (case yk6 => exact rfl); (case yu => assumption); (case ya => omega); (case yb => omega); (case yv => assumption); (case ykd => ktr_room); (case yku => ktr_units)); intro r' l' h' tk' F' N' hp'; obtain ⟨hr', hl'⟩ := hp'; subst hr'; subst hl'; (try dsimp only at N'); (try dsimp only); (try k_sweep); k_steps) | (show wpAny _ _ _ _ _ _; k_here; (with_reducible show wpAny _ _ (call (Value.ref 57) [Value.str _ _]) _ _ _); k_dflt (refine' tellsX_use ?yk1 ?yk2 ?yk3 ?yk4 ?yk5 ?yk6 (glob_none ?yu ?yv) ?ykd ?yku ?_; (case yk1 => k_asm); (case yk2 => k_asm); (case yk3 => k_asm); (case yk4 => k_asm); (case yk5 => k_asm); (case yk6 => exact rfl); (case yu => assumption); (case yv => assumption); (case ykd => ktr_room); (case yku => ktr_units)); intro r' l' h' tk' F' N' hp'; obtain ⟨hr', hl'⟩ := hp'; subst hr'; subst hl'; (try dsimp only at N'); (try dsimp only); (try k_sweep); k_steps) | (show wpAny _ _ _ _ _ _; k_here; (with_reducible show wpAny _ _ (call (Value.ref 78) [Value.ref _, Value.ref _]) _ _ _); k_dflt (refine' tellsX_use ?yk1 ?yk2 ?yk3 ?yk4 ?yk5 ?yk6 (one_spec ?yu ?ys ?ym ?yn ?yp ?yq) ?ykd ?yku ?_; (case yk1 => k_asm); (case yk2 => k_asm); (case yk3 => k_asm); (case yk4 => k_asm); (case yk5 => k_asm); (case yk6 => exact rfl); (case yu => k_updF); (case ys => assumption); (case ym => k_mem); (case yn => k_ne); (case yp => exact Nat.succ_pos _); (case yq => exact Nat.le_of_ble_eq_true rfl); (case ykd => ktr_room); (case yku => ktr_units)); intro r' l' h' tk' F' N' hp'; obtain ⟨S', hr', hS', hl'⟩ := hp'; subst hl'; (try dsimp only at N'); (try dsimp only); (try k_sweep); (first | (have hc9 := chars_of [97, 45, 91, 42, 94] (by kernel_rfl!) hr'; obtain ⟨c', tc', hc', hcs'⟩ := hc9; clear hr'; subst hc') | (have hc9 := strs_of [[], [94], [93], [94, 93]] (by kernel_rfl!) hr'; obtain ⟨x', tx', hx', hxs'⟩ := hc9; clear hr'; subst hx'; (have hxl' := four_len hxs'))); k_steps) | (show wpAny _ _ _ _ _ _; k_here; (with_reducible show wpAny _ _ (call (Value.ref 71) [Value.ref _, Value.int _ _]) _ _ _); k_dflt (refine' tellsX_use ?yk1 ?yk2 ?yk3 ?yk4 ?yk5 ?yk6 (take_spec ?yu ?ys ?yp ?yq) ?ykd ?yku ?_; (case yk1 => k_asm); (case yk2 => k_asm); (case yk3 => k_asm); (case yk4 => k_asm); (case yk5 => k_asm); (case yk6 => exact rfl); (case yu => k_updF); (case ys => assumption); (case yp => first | omega | decide); (case yq => first | omega | decide); (case ykd => ktr_room); (case yku => ktr_units)); intro r' l' h' tk' F' N' hp'; obtain ⟨S', ⟨d', td', hr', hd0', hd1'⟩, hS', hl'⟩ := hp'; subst hr'; subst hl'; (try dsimp only at N'); (try dsimp only); (try k_sweep); k_steps)))
    show wpAny _ _ _ _ _ _
    rename SrcIs _ => hS2
    refine range_inv (σ := O1) (O1.led src rest) O1.ps (O1.P P) [] ⟨_, x1, t1⟩ rfl (by assumption) (small_one (by decide) (by decide) (by omega) (by omega)) (rangeSize_nat _ _) (by k_asm) (by k_asm) (fun _ h => h) ?_ ?_ ?_ ?_
    · dsimp only [O1.ps]; k_dflt kst_all
    · exact ⟨hS2, hx1, hl1⟩
    · intro i c u tt h2 tk2 own hi hP2 hoff F2 N2
      obtain ⟨S2, x2, t2⟩ := c
      obtain ⟨hS2, hx2, hl2⟩ := hP2
      dsimp only [O1.led, O1.ps] at *
      simp only [List.cons_append] at N2
      obtain ⟨R, hR⟩ : ∃ R, R = rest ++ own := ⟨_, rfl⟩
      rw [← hR] at N2
      have hR1 : ∀ p ∈ R, p.1 ≠ src := by
        intro p hp
        rw [hR] at hp
        rcases List.mem_append.mp hp with hp | hp
        · exact hne p hp
        · exact off_of hoff (.head _) p hp
      have hi3 : i < 4 := by omega
      (((try k_fold); k_steps); repeat' (first | (show wpAny _ _ _ _ _ _; k_here; (with_reducible show wpAny _ _ (call (Value.ref 50) [Value.str _ _, Value.int _ _]) _ _ _); k_dflt (refine' tellsX_use ?yk1 ?yk2 ?yk3 ?yk4 ?yk5 ?yk6 (lotat_none ?yu ?ya ?yb ?yv) ?ykd ?yku ?_; (case yk1 => k_asm); (case yk2 => k_asm); (case yk3 => k_asm); (case yk4 => k_asm); (case yk5 => k_asm); (case yk6 => exact rfl); (case yu => assumption); (case ya => omega); (case yb => omega); (case yv => assumption); (case ykd => ktr_room); (case yku => ktr_units)); intro r' l' h' tk' F' N' hp'; obtain ⟨hr', hl'⟩ := hp'; subst hr'; subst hl'; (try dsimp only at N'); (try dsimp only); (try k_sweep); k_steps) | (show wpAny _ _ _ _ _ _; k_here; (with_reducible show wpAny _ _ (call (Value.ref 57) [Value.str _ _]) _ _ _); k_dflt (refine' tellsX_use ?yk1 ?yk2 ?yk3 ?yk4 ?yk5 ?yk6 (glob_none ?yu ?yv) ?ykd ?yku ?_; (case yk1 => k_asm); (case yk2 => k_asm); (case yk3 => k_asm); (case yk4 => k_asm); (case yk5 => k_asm); (case yk6 => exact rfl); (case yu => assumption); (case yv => assumption); (case ykd => ktr_room); (case yku => ktr_units)); intro r' l' h' tk' F' N' hp'; obtain ⟨hr', hl'⟩ := hp'; subst hr'; subst hl'; (try dsimp only at N'); (try dsimp only); (try k_sweep); k_steps) | (show wpAny _ _ _ _ _ _; k_here; (with_reducible show wpAny _ _ (call (Value.ref 78) [Value.ref _, Value.ref _]) _ _ _); k_dflt (refine' tellsX_use ?yk1 ?yk2 ?yk3 ?yk4 ?yk5 ?yk6 (one_spec ?yu ?ys ?ym ?yn ?yp ?yq) ?ykd ?yku ?_; (case yk1 => k_asm); (case yk2 => k_asm); (case yk3 => k_asm); (case yk4 => k_asm); (case yk5 => k_asm); (case yk6 => exact rfl); (case yu => k_updF); (case ys => assumption); (case ym => k_mem); (case yn => k_ne); (case yp => exact Nat.succ_pos _); (case yq => exact Nat.le_of_ble_eq_true rfl); (case ykd => ktr_room); (case yku => ktr_units)); intro r' l' h' tk' F' N' hp'; obtain ⟨S', hr', hS', hl'⟩ := hp'; subst hl'; (try dsimp only at N'); (try dsimp only); (try k_sweep); (first | (have hc9 := chars_of [97, 45, 91, 42, 94] (by kernel_rfl!) hr'; obtain ⟨c', tc', hc', hcs'⟩ := hc9; clear hr'; subst hc') | (have hc9 := strs_of [[], [94], [93], [94, 93]] (by kernel_rfl!) hr'; obtain ⟨x', tx', hx', hxs'⟩ := hc9; clear hr'; subst hx'; (have hxl' := four_len hxs'))); k_steps) | (show wpAny _ _ _ _ _ _; k_here; (with_reducible show wpAny _ _ (call (Value.ref 71) [Value.ref _, Value.int _ _]) _ _ _); k_dflt (refine' tellsX_use ?yk1 ?yk2 ?yk3 ?yk4 ?yk5 ?yk6 (take_spec ?yu ?ys ?yp ?yq) ?ykd ?yku ?_; (case yk1 => k_asm); (case yk2 => k_asm); (case yk3 => k_asm); (case yk4 => k_asm); (case yk5 => k_asm); (case yk6 => exact rfl); (case yu => k_updF); (case ys => assumption); (case yp => first | omega | decide); (case yq => first | omega | decide); (case ykd => ktr_room); (case yku => ktr_units)); intro r' l' h' tk' F' N' hp'; obtain ⟨S', ⟨d', td', hr', hd0', hd1'⟩, hS', hl'⟩ := hp'; subst hr'; subst hl'; (try dsimp only at N'); (try dsimp only); (try k_sweep); k_steps)))
      rename News _ _ _ _ => N7
      rename Fr _ _ _ _ => F7
      rename SrcIs _ => hS7
      rename _ ∈ [97, 45, 91, 42, 94] => hc7
      refine' mid_end ⟨_, _, _⟩ F7 N7 ?e1 ?e2 ?e3 ⟨hS7, hx2.snoc hc7, ?e6⟩ ?e4 ?e5
      case e1 =>
        dsimp only [O1.led, List.cons_append]
        refine List.forall_mem_cons.mpr ⟨by k_memK, fun p hp => ?_⟩
        have : p ∈ R := by rw [hR]; exact List.mem_append.mpr (.inl hp)
        repeat' (first | exact this | refine List.Mem.tail _ ?_)
      case e2 =>
        intro p hp
        have : p ∈ R := by rw [hR]; exact List.mem_append.mpr (.inr hp)
        repeat' (first | exact this | refine List.Mem.tail _ ?_)
      case e3 => exact hoff
      case e6 =>
        rw [Str.length_append]
        show _ + 1 ≤ _
        omega
      case e4 => dsimp only [O1.ps]; k_dflt kst_all
      case e5 =>
        intro z h1 h2 h3
        have h4 : z ≠ Str.ofString "text" := h2 (Str.ofString "text", _) (List.Mem.head _)
        refine (if_neg h4).trans ?_
        refine (if_neg h1).trans ?_
        exact off_base (List.forall_mem_cons.mpr ⟨h4, List.forall_mem_nil _⟩) h3
    · intro c u h3 tk3 hP3 F3 N3
      obtain ⟨S3, x3, t3⟩ := c
      obtain ⟨hS3, hx3, hl3⟩ := hP3
      dsimp only [O1.led, O1.ps] at *
      have hlb := hx3.len
      have hgn := hx3.gparse hP
      have hln := hx3.drop
      have hl4 : x3.length ≤ 1000 := by omega
      (((try k_fold); k_steps); repeat' (first | (show wpAny _ _ _ _ _ _; k_here; (with_reducible show wpAny _ _ (call (Value.ref 50) [Value.str _ _, Value.int _ _]) _ _ _); k_dflt (refine' tellsX_use ?yk1 ?yk2 ?yk3 ?yk4 ?yk5 ?yk6 (lotat_none ?yu ?ya ?yb ?yv) ?ykd ?yku ?_; (case yk1 => k_asm); (case yk2 => k_asm); (case yk3 => k_asm); (case yk4 => k_asm); (case yk5 => k_asm); (case yk6 => exact rfl); (case yu => assumption); (case ya => omega); (case yb => omega); (case yv => assumption); (case ykd => ktr_room); (case yku => ktr_units)); intro r' l' h' tk' F' N' hp'; obtain ⟨hr', hl'⟩ := hp'; subst hr'; subst hl'; (try dsimp only at N'); (try dsimp only); (try k_sweep); k_steps) | (show wpAny _ _ _ _ _ _; k_here; (with_reducible show wpAny _ _ (call (Value.ref 57) [Value.str _ _]) _ _ _); k_dflt (refine' tellsX_use ?yk1 ?yk2 ?yk3 ?yk4 ?yk5 ?yk6 (glob_none ?yu ?yv) ?ykd ?yku ?_; (case yk1 => k_asm); (case yk2 => k_asm); (case yk3 => k_asm); (case yk4 => k_asm); (case yk5 => k_asm); (case yk6 => exact rfl); (case yu => assumption); (case yv => assumption); (case ykd => ktr_room); (case yku => ktr_units)); intro r' l' h' tk' F' N' hp'; obtain ⟨hr', hl'⟩ := hp'; subst hr'; subst hl'; (try dsimp only at N'); (try dsimp only); (try k_sweep); k_steps) | (show wpAny _ _ _ _ _ _; k_here; (with_reducible show wpAny _ _ (call (Value.ref 78) [Value.ref _, Value.ref _]) _ _ _); k_dflt (refine' tellsX_use ?yk1 ?yk2 ?yk3 ?yk4 ?yk5 ?yk6 (one_spec ?yu ?ys ?ym ?yn ?yp ?yq) ?ykd ?yku ?_; (case yk1 => k_asm); (case yk2 => k_asm); (case yk3 => k_asm); (case yk4 => k_asm); (case yk5 => k_asm); (case yk6 => exact rfl); (case yu => k_updF); (case ys => assumption); (case ym => k_mem); (case yn => k_ne); (case yp => exact Nat.succ_pos _); (case yq => exact Nat.le_of_ble_eq_true rfl); (case ykd => ktr_room); (case yku => ktr_units)); intro r' l' h' tk' F' N' hp'; obtain ⟨S', hr', hS', hl'⟩ := hp'; subst hl'; (try dsimp only at N'); (try dsimp only); (try k_sweep); (first | (have hc9 := chars_of [97, 45, 91, 42, 94] (by kernel_rfl!) hr'; obtain ⟨c', tc', hc', hcs'⟩ := hc9; clear hr'; subst hc') | (have hc9 := strs_of [[], [94], [93], [94, 93]] (by kernel_rfl!) hr'; obtain ⟨x', tx', hx', hxs'⟩ := hc9; clear hr'; subst hx'; (have hxl' := four_len hxs'))); k_steps) | (show wpAny _ _ _ _ _ _; k_here; (with_reducible show wpAny _ _ (call (Value.ref 71) [Value.ref _, Value.int _ _]) _ _ _); k_dflt (refine' tellsX_use ?yk1 ?yk2 ?yk3 ?yk4 ?yk5 ?yk6 (take_spec ?yu ?ys ?yp ?yq) ?ykd ?yku ?_; (case yk1 => k_asm); (case yk2 => k_asm); (case yk3 => k_asm); (case yk4 => k_asm); (case yk5 => k_asm); (case yk6 => exact rfl); (case yu => k_updF); (case ys => assumption); (case yp => first | omega | decide); (case yq => first | omega | decide); (case ykd => ktr_room); (case yku => ktr_units)); intro r' l' h' tk' F' N' hp'; obtain ⟨S', ⟨d', td', hr', hd0', hd1'⟩, hS', hl'⟩ := hp'; subst hr'; subst hl'; (try dsimp only at N'); (try dsimp only); (try k_sweep); k_steps)))
      refine' hret _ ((src, S3) :: rest) _ _ ?g1 ?g2 ?g3
      case g1 => k_asm
      case g2 => k_asm
      case g3 => exact ⟨_, ⟨rfl, hS3⟩, rfl⟩
end
theorem open_spec {w : World} {mean : ExcName → Option Value} {mg mb : Str → Option Value} {src : Addr} {S : Obj} {led : List (Addr × Obj)} {g : Obj → List (Addr × Obj)} (U : UpdF src S led g) (hs : SrcIs S)
    {P : Str} {tp : Tok} {rows : List Row} (hlen : P.length ≤ 900) (hP : ∀ rest, gparse (P.cps.toList ++ rest) = (gparse rest).map (rows ++ ·)) :
    TellsX w mean mg mb 118 40 400 led [.ref src, .str P tp] (fun r led' => ∃ S', (r = .bool true ∧ SrcIs S') ∧ led' = g S') := by
  refine (tells_src (R := fun r S' new => (r = .bool true ∧ SrcIs S') ∧ new = []) U fun rest hne _ _ => (open_core w mean mg mb src S rest hs hne P tp rows hlen hP).mono (fun _ h => h) ?_).mono (fun _ h => h) ?_
  · rintro r l ⟨S', h, rfl⟩
    exact ⟨_, fun _ h => h, S', [], ⟨h, rfl⟩, fun _ _ _ h => (nomatch h), rfl⟩
  · rintro r l ⟨S', new, ⟨h, rfl⟩, _, rfl⟩
    exact ⟨g S', fun _ h => h, S', h, rfl⟩
end Mine
end

section
set_option maxRecDepth 100000
set_option maxHeartbeats 8000000
namespace Mine

theorem LowC.ne {b : Bool} {c : Nat} (h : LowC b c) : c ≠ 93 ∧ c ≠ 45 ∧ c < 300 := by
  have k : (c != 93 && (c != 45 && decide (c < 300))) = true := by
    rcases h with h | ⟨_, rfl⟩
    · exact List.all_eq_true.mp (by decide : [97, 99, 101, 33, 91, 42, 233].all (fun c => c != 93 && (c != 45 && decide (c < 300))) = true) c h
    · decide
  simpa using k
theorem LowC.first {c : Nat} (h : LowC true c) : c ≠ 94 := by
  rcases h with h | ⟨h, _⟩
  · have k : (c != 94) = true := List.all_eq_true.mp (by decide : [97, 99, 101, 33, 91, 42, 233].all (fun c => c != 94) = true) c h
    exact bne_iff_ne.mp k
  · cases h
theorem HighC.ne {c : Nat} (h : HighC c) : c ≠ 93 ∧ c < 300 := by
  have k : (c != 93 && decide (c < 300)) = true := List.all_eq_true.mp (by decide : [97, 99, 100, 45, 94, 91, 233].all (fun c => c != 93 && decide (c < 300)) = true) c h
  simpa using k
noncomputable def tailOk : List It → Prop
  | [] => True
  | it :: r => ItemOk false r.isEmpty it.1 it.2.1 it.2.2 ∧ tailOk r
theorem tail_of : ∀ (r : List It) (k : Nat), 1 ≤ k → (∀ (j : Nat) (it : It), r[j]? = some it → ItemOk (((k : Int) + (j : Int)) == 0) (((k : Int) + (j : Int)) == ((k + r.length : Nat) : Int) - 1) it.1 it.2.1 it.2.2) → tailOk r
  | [], _, _, _ => trivial
  | it :: r, k, hk, h => by
    refine ⟨?_, tail_of r (k + 1) (by omega) fun j jt hj => ?_⟩
    · have h0 := h 0 it rfl
      have e1 : (((k : Int) + ((0 : Nat) : Int)) == 0) = false := by rw [beq_eq_false_iff_ne]; omega
      have e2 : (((k : Int) + ((0 : Nat) : Int)) == ((k + (it :: r).length : Nat) : Int) - 1) = r.isEmpty := by
        cases r with
        | nil => rw [beq_iff_eq.mpr (by simp only [List.length_cons, List.length_nil]; omega)]; rfl
        | cons a r => rw [beq_eq_false_iff_ne.mpr (by simp only [List.length_cons]; omega)]; rfl
      rw [e1, e2] at h0
      exact h0
    · have h1 := h (j + 1) jt (by simpa using hj)
      have e1 : ((k : Int) + ((j + 1 : Nat) : Int)) = ((k + 1 : Nat) : Int) + (j : Int) := by omega
      have e2 : ((k + (it :: r).length : Nat) : Int) = ((k + 1 + r.length : Nat) : Int) := by simp only [List.length_cons]; omega
      rw [e1, e2] at h1
      exact h1
theorem items_cases {its : List It} (h : ItemsAt its.length its) : its = [] ∨ ∃ it r, its = it :: r ∧ ItemOk true r.isEmpty it.1 it.2.1 it.2.2 ∧ tailOk r := by
  cases its with
  | nil => exact .inl rfl
  | cons it r =>
    refine .inr ⟨it, r, rfl, ?_, tail_of r 1 (Nat.le_refl _) fun j jt hj => ?_⟩
    · have h0 := h 0 it rfl
      have e2 : ((0 + ((0 : Nat) : Int)) == ((it :: r).length : Int) - 1) = r.isEmpty := by
        cases r with
        | nil => rfl
        | cons a r => rw [beq_eq_false_iff_ne.mpr (by simp only [List.length_cons]; omega)]; rfl
      rw [e2] at h0
      exact h0
    · have h1 := h (j + 1) jt (by simpa using hj)
      have e1 : (0 + ((j + 1 : Nat) : Int)) = ((1 : Nat) : Int) + (j : Int) := by omega
      have e2 : ((it :: r).length : Int) = ((1 + r.length : Nat) : Int) := by simp only [List.length_cons]; omega
      rw [e1, e2] at h1
      exact h1
theorem itFlat_cons (it : It) (r : List It) : itFlat (it :: r) = it.1 ++ itFlat r := List.flatMap_cons
theorem tail_head {r : List It} {y : List Nat} (h : tailOk r) : ∀ e z, itFlat r ++ 93 :: y = 45 :: e :: z → e = 93 := by
  intro e z he
  cases r with
  | nil => simp [itFlat] at he
  | cons it r =>
    rw [itFlat_cons] at he
    rcases h.1 with ⟨h1, _, _, h2 | h2⟩ | ⟨h1, h2, _⟩ | ⟨h1, _, h2⟩
    · cases h2
    · have : r = [] := by cases r with | nil => rfl | cons _ _ => cases h2
      subst this
      rw [h1] at he
      simp [itFlat] at he
      exact he.1.symm
    · rw [h1] at he
      simp at he
      exact absurd he.1 h2.ne.2.1
    · rw [h1] at he
      simp at he
      exact absurd he.1 h2.ne.2.1
theorem scan_item {b1 b2 : Bool} {T : List Nat} {lo hi : Nat} {z : List Nat} (h : ItemOk b1 b2 T lo hi) (hz : ∀ e r, z = 45 :: e :: r → e = 93) : scan (T ++ z) = (scan z).map fun q => ((lo, hi) :: q.1, q.2 + T.length) := by
  rcases h with ⟨rfl, rfl, rfl, _⟩ | ⟨rfl, h2, h3⟩ | ⟨rfl, rfl, h2⟩
  · exact scan_one (by decide) hz
  · exact scan_range h2.ne.1 h3.ne.1
  · exact scan_one h2.ne.1 hz
theorem scan_tail {y : List Nat} : ∀ {r : List It}, tailOk r → scan (itFlat r ++ 93 :: y) = some (itEnds r, (itFlat r).length)
  | [], _ => by
    show scan (93 :: y) = _
    rw [scan_shut]; rfl
  | it :: r, h => by
    rw [itFlat_cons, List.append_assoc, scan_item h.1 (tail_head h.2), scan_tail h.2]
    show some _ = some _
    rw [List.length_append, Nat.add_comm]
    rfl
theorem scan_items {its : List It} {y : List Nat} (h : ItemsAt its.length its) : scan (itFlat its ++ 93 :: y) = some (itEnds its, (itFlat its).length) := by
  rcases items_cases h with rfl | ⟨it, r, rfl, h1, h2⟩
  · show scan (93 :: y) = _
    rw [scan_shut]; rfl
  · rw [itFlat_cons, List.append_assoc, scan_item h1 (tail_head h2), scan_tail h2]
    show some _ = some _
    rw [List.length_append, Nat.add_comm]
    rfl
theorem items_head {its : List It} {y : List Nat} (h : ItemsAt its.length its) (hl : 0 < its.length) : ∃ c z, itFlat its ++ 93 :: y = c :: z ∧ c ≠ 94 ∧ c ≠ 93 := by
  rcases items_cases h with rfl | ⟨it, r, rfl, h1, h2⟩
  · exact absurd hl (by decide)
  · rw [itFlat_cons]
    rcases h1 with ⟨h1, _⟩ | ⟨h1, h3, _⟩ | ⟨h1, _, h3⟩ <;> rw [h1]
    · exact ⟨_, _, rfl, by decide, by decide⟩
    · exact ⟨_, _, rfl, h3.first, h3.ne.1⟩
    · exact ⟨_, _, rfl, h3.first, h3.ne.1⟩
/-- what the law writes as a lot is read back, whatever stands behind it -/
theorem lot_text {T : List Nat} {prs : List (Nat × Nat)} {bt : Bool} (h : LotOk T prs bt) (y : List Nat) : lotParse (T ++ y) = some (prs, T.length) ∧ hat (T ++ y) = bt := by
  obtain ⟨br, its, rfl, rfl, hI, _, hb⟩ := h
  have hs := scan_items (y := y) hI
  have hh := fun hl => items_head (y := y) hI hl
  have e : preT bt br ++ itFlat its ++ [93] ++ y = preT bt br ++ (itFlat its ++ 93 :: y) := by simp
  rw [e]
  generalize itFlat its ++ 93 :: y = C at hs hh
  have hlen : (preT bt br ++ itFlat its ++ [93]).length = (preT bt br).length + (itFlat its).length + 1 := by simp [Nat.add_assoc]
  rw [hlen]
  unfold lotParse
  cases bt <;> cases br
  · obtain ⟨c, z, rfl, h94, h93⟩ := hh (hb.resolve_left (by decide))
    have e1 : hat (preT false false ++ c :: z) = false := by show (some c == some 94) = false; simp [h94]
    have e2 : k1 (preT false false ++ c :: z) = 0 := by unfold k1; rw [e1]; rfl
    have e3 : shut (preT false false ++ c :: z) = false := by unfold shut; rw [e2]; show (some c == some 93) = false; simp [h93]
    have e4 : k2 (preT false false ++ c :: z) = 0 := by unfold k2; rw [e3]; rfl
    rw [e2, e4, e3]
    refine ⟨?_, e1⟩
    show Option.map _ (scan (c :: z)) = _
    rw [hs]
    show some _ = some _
    simp [preT, preE]
  · refine ⟨?_, rfl⟩
    show Option.map _ (scan C) = _
    rw [hs]
    show some _ = some _
    congr 2
  · obtain ⟨c, z, rfl, h94, h93⟩ := hh (hb.resolve_left (by decide))
    have e1 : hat (preT true false ++ c :: z) = true := rfl
    have e2 : k1 (preT true false ++ c :: z) = 1 := rfl
    have e3 : shut (preT true false ++ c :: z) = false := by unfold shut; rw [e2]; show (some c == some 93) = false; simp [h93]
    have e4 : k2 (preT true false ++ c :: z) = 0 := by unfold k2; rw [e3]; rfl
    rw [e2, e4, e3]
    refine ⟨?_, e1⟩
    show Option.map _ (scan (c :: z)) = _
    rw [hs]
    show some _ = some _
    simp [preT, preE]
  · refine ⟨?_, rfl⟩
    show Option.map _ (scan C) = _
    rw [hs]
    show some _ = some _
    congr 2
theorem lot_len {T : List Nat} {prs : List (Nat × Nat)} {bt : Bool} (h : LotOk T prs bt) : T.length ≤ 12 := by
  obtain ⟨br, its, rfl, rfl, hI, hl, hb⟩ := h
  have h1 := itFlat_len hI
  have h2 : (preT bt br).length ≤ 2 := by cases bt <;> cases br <;> decide
  rw [List.length_append, List.length_append]
  show _ + 1 ≤ 12
  omega
theorem row_small {prs : List (Nat × Nat)} {neg : Bool} (h : ∀ p ∈ prs, p.1 < 300 ∧ p.2 < 300) : RowOk (.lot prs neg) := by
  unfold RowOk
  simp only [rowDat, dOk, List.all_cons, List.all_nil, Bool.and_true, Bool.true_and, List.all_eq_true, List.mem_map]
  rintro _ ⟨p, hp, rfl⟩
  have := h p hp
  simp [pairDat, dOk, PyData.strOk]
  omega
theorem ItemOk.small {b1 b2 : Bool} {T : List Nat} {lo hi : Nat} (h : ItemOk b1 b2 T lo hi) : lo < 300 ∧ hi < 300 := by
  rcases h with ⟨rfl, rfl, rfl, _⟩ | ⟨rfl, h2, h3⟩ | ⟨rfl, rfl, h2⟩
  · decide
  · exact ⟨h2.ne.2.2, h3.ne.2⟩
  · exact ⟨h2.ne.2.2, h2.ne.2.2⟩
theorem lot_row {T : List Nat} {prs : List (Nat × Nat)} {bt : Bool} (h : LotOk T prs bt) : RowOk (.lot prs bt) := by
  obtain ⟨br, its, rfl, rfl, hI, hl, hb⟩ := h
  refine row_small fun p hp => ?_
  rcases List.mem_append.mp hp with hp | hp
  · cases br
    · cases hp
    · simp [preE] at hp
      subst hp
      decide
  · obtain ⟨it, hm, rfl⟩ := List.mem_map.mp hp
    obtain ⟨j, hj, e⟩ := List.getElem_of_mem hm
    exact (hI j it (by rw [← e]; simp [hj])).small
/-- whatever stands behind x, x gives rows -/
noncomputable def Good (x : List Nat) (rows : List Row) : Prop := ∀ rest, gparse (x ++ rest) = (gparse rest).map (rows ++ ·)
theorem Good.nil : Good [] [] := fun rest => by
  show gparse rest = _
  cases gparse rest <;> rfl
theorem Good.append {x z : List Nat} {rs rs' : List Row} (h : Good x rs) (h' : Good z rs') : Good (x ++ z) (rs ++ rs') := fun rest => by
  rw [List.append_assoc, h, h', Option.map_map]
  congr 1
  funext l
  simp
theorem Good.any : Good [42] [.any] := fun rest => gparse_any rest
theorem Good.one : Good [63] [.one] := fun rest => gparse_one rest
theorem Good.sign {c : Nat} (h1 : c ≠ 42) (h2 : c ≠ 63) (h3 : c ≠ 91) : Good [c] [.sign c] := fun rest => gparse_sign h1 h2 h3
theorem Good.lot {T : List Nat} {prs : List (Nat × Nat)} {bt : Bool} (h : LotOk T prs bt) : Good (91 :: T) [.lot prs bt] := fun rest => by
  obtain ⟨h1, h2⟩ := lot_text h rest
  show gparse (91 :: (T ++ rest)) = _
  rw [gparse_lot, h1, h2]
  show Option.map _ (gparse ((T ++ rest).drop T.length)) = _
  rw [List.drop_left]
  rfl
theorem Good.parse {x : List Nat} {rows : List Row} (h : Good x rows) : gparse x = some rows := by
  have := h []
  rw [List.append_nil, gparse_nil] at this
  rw [this]
  show some (rows ++ []) = _
  rw [List.append_nil]
/-- at a, codes hold a lot that ends at b -/
noncomputable def LotHere (codes : List Nat) (a b : Int) (prs : List (Nat × Nat)) (neg : Bool) : Prop :=
  0 ≤ a ∧ a.toNat ≤ codes.length ∧ ∃ k : Nat, b = a + k ∧ ∀ y, lotParse (codes.drop a.toNat ++ y) = some (prs, k) ∧ hat (codes.drop a.toNat ++ y) = neg
theorem LotHere.more {codes z : List Nat} {a b : Int} {prs : List (Nat × Nat)} {neg : Bool} (h : LotHere codes a b prs neg) : LotHere (codes ++ z) a b prs neg := by
  obtain ⟨h1, h2, k, h3, h4⟩ := h
  refine ⟨h1, by rw [List.length_append]; omega, k, h3, fun y => ?_⟩
  rw [List.drop_append_of_le_length h2, List.append_assoc]
  exact h4 _
theorem LotHere.new {x T : List Nat} {prs : List (Nat × Nat)} {bt : Bool} {a b : Int} (h : LotOk T prs bt) (ha : a = (x.length : Int) + 1) (hb : b = (x.length : Int) + 1 + (T.length : Int)) : LotHere (x ++ 91 :: T) a b prs bt := by
  subst ha hb
  have e : ((x.length : Int) + 1).toNat = x.length + 1 := by omega
  refine ⟨by omega, by rw [e]; simp, T.length, rfl, fun y => ?_⟩
  rw [e, show x ++ 91 :: T = (x ++ [91]) ++ T by simp, List.drop_left' (by simp)]
  exact lot_text h y
end Mine
end

section
set_option maxRecDepth 100000
set_option maxHeartbeats 8000000
namespace Mine
theorem ne_up1 {a : Addr} {rest : List (Addr × Obj)} (h : AllLt a rest) : ∀ p ∈ rest, p.1 ≠ a + 1 := fun p hp => Nat.ne_of_lt (Nat.lt_succ_of_lt (ktn_ltOf h p hp))
theorem ne_up2 {a : Addr} {rest : List (Addr × Obj)} (h : AllLt a rest) : ∀ p ∈ rest, p.1 ≠ a + 1 + 1 := fun p hp => Nat.ne_of_lt (Nat.lt_succ_of_lt (Nat.lt_succ_of_lt (ktn_ltOf h p hp)))
theorem get_addr {a : Addr} {rest : List (Addr × Obj)} (h : AllLt a rest) : ∃ x, AllLt x rest ∧ x = a := ⟨a, h, rfl⟩
structure C0 where
  S : Obj
  t : Tok
  rr : Addr
  ll : Addr
  oP : Obj
  oR : Obj
noncomputable abbrev C0.led (src Lp : Addr) (rest : List (Addr × Obj)) (c : C0) : List (Addr × Obj) := (Lp + 1 + 1, c.oP) :: (Lp + 1, c.oR) :: (src, c.S) :: (c.rr, listOf #[] 0) :: (c.ll, listOf #[] 0) :: rest
noncomputable abbrev C0.ps (src : Addr) (c : C0) : List (Str × Value) := [(Str.ofString "source", .ref src), (Str.ofString "pattern", .str (Str.ofString "") c.t), (Str.ofString "lots", .ref c.ll)]
noncomputable abbrev C0.P (src Lp : Addr) (rest : List (Addr × Obj)) (c : C0) : Prop :=
  SrcIs c.S ∧ c.oP.data = .cell none ∧ c.oR.data = .cell (some (.ref c.rr)) ∧ (@LT.lt Nat _ c.rr c.ll ∧ @LT.lt Nat _ src c.rr ∧ @LT.lt Nat _ (Lp + 1 + 1) c.rr ∧ @LT.lt Nat _ (Lp + 1) c.rr ∧ AllLt c.rr rest) ∧ (@LT.lt Nat _ src c.ll ∧ @LT.lt Nat _ (Lp + 1 + 1) c.ll ∧ @LT.lt Nat _ (Lp + 1) c.ll ∧ AllLt c.ll rest)
/-- a lot that the law remembers -/
inductive LotV (tl : List (Addr × Obj)) (codes : List Nat) (v : Value) : Prop
  | mk (q : Addr) (a : Int) (ta : Tok) (u : Addr) (b : Int) (tb : Tok) (prs : List (Nat × Nat)) (neg : Bool) (hv : v = .ref q) (hq : (q, tupOf [.int a ta, .ref u, .int b tb]) ∈ tl) (hD : DatIn tl (.ref u) (rowDat (.lot prs neg))) (hok : RowOk (.lot prs neg)) (hl : LotHere codes a b prs neg)
theorem LotV.more {tl tl' : List (Addr × Obj)} {codes z : List Nat} {v : Value} (h : LotV tl codes v) (hs : ∀ p ∈ tl, p ∈ tl') : LotV tl' (codes ++ z) v := by
  obtain ⟨q, a, ta, u, b, tb, prs, neg, h1, h2, h3, h4, h5⟩ := h
  exact ⟨q, a, ta, u, b, tb, prs, neg, h1, hs _ h2, h3.mono hs, h4, h5.more⟩
structure R1 where
  S : Obj
  x : Str
  t : Tok
  vr : List Value
  kr : Nat
  vl : List Value
  kl : Nat
  tl : List (Addr × Obj)
  rows : List Row
noncomputable abbrev R1.led (src Lp rr ll : Addr) (oP oR : Obj) (rest : List (Addr × Obj)) (c : R1) : List (Addr × Obj) := (Lp + 1 + 1, oP) :: (Lp + 1, oR) :: (src, c.S) :: (rr, listOf c.vr.toArray c.kr) :: (ll, listOf c.vl.toArray c.kl) :: (c.tl ++ rest)
noncomputable abbrev R1.ps (c : R1) : List (Str × Value) := [(Str.ofString "pattern", .str c.x c.t)]
noncomputable def R1.P (ll : Addr) (i : Nat) (c : R1) : Prop :=
  SrcIs c.S ∧ c.x.length ≤ 20 * i ∧ DatAll c.tl c.vr (c.rows.map rowDat) ∧ (∀ r ∈ c.rows, RowOk r) ∧ c.rows.length = i ∧ Good c.x.cps.toList c.rows ∧ (∀ v ∈ c.vl, LotV c.tl c.x.cps.toList v) ∧ c.vl.length ≤ i ∧ (∀ p ∈ c.tl, @LT.lt Nat _ ll p.1)
theorem R1.P.row {ll : Addr} {i : Nat} {c : R1} (h : c.P ll i) {S' : Obj} {z : Str} {t' : Tok} {kr' : Nat} {D : Addr} {o : Obj} {row : Row} (hS : SrcIs S') (hz : Good z.cps.toList [row]) (hl : z.length ≤ 20) (hrow : RowOk row)
    (hd : DatIn [(D, o)] (.ref D) (rowDat row)) (hD : @LT.lt Nat _ ll D) : (R1.mk S' (c.x ++ z) t' (c.vr ++ [.ref D]) kr' c.vl c.kl ((D, o) :: c.tl) (c.rows ++ [row])).P ll (i + 1) := by
  obtain ⟨_, hx, hDa, hok, hr, hg, hv, hl', ht⟩ := h
  refine ⟨hS, ?_, ?_, ?_, ?_, ?_, ?_, by show c.vl.length ≤ _; omega, ?_⟩
  · show (c.x ++ z).length ≤ _
    rw [Str.length_append]; omega
  · show DatAll _ (c.vr ++ [.ref D]) ((c.rows ++ [row]).map rowDat)
    rw [List.map_append]
    exact (hDa.mono fun _ h => .tail _ h).append (.one (hd.mono fun p hp => by rw [List.mem_singleton.mp hp]; exact .head _))
  · intro r hr
    rcases List.mem_append.mp hr with hr | hr
    · exact hok r hr
    · rw [List.mem_singleton.mp hr]; exact hrow
  · show (c.rows ++ [row]).length = _
    rw [List.length_append, hr]; rfl
  · show Good (c.x ++ z).cps.toList _
    rw [Str.cps_append, Array.toList_append]
    exact hg.append hz
  · intro v hm
    show LotV _ (c.x ++ z).cps.toList v
    rw [Str.cps_append, Array.toList_append]
    exact (hv v hm).more fun _ h => .tail _ h
  · intro q hq
    rcases List.mem_cons.mp hq with rfl | hq
    · exact hD
    · exact ht q hq
theorem R1.P.lot {ll : Addr} {i : Nat} {c : R1} (h : c.P ll i) {S' : Obj} {z : Str} {t' : Tok} {kr' kl' : Nat} {T p rl : Addr} {a b : Int} {ta tb t0 : Tok} {prs : List (Nat × Nat)} {bt : Bool} {vs : List Value} {kk : Nat} {tl0 : List (Addr × Obj)}
    (hS : SrcIs S') (hz : LotOk z.cps.toList prs bt) (ha : a = (c.x.length : Int) + 1) (hb : b = (c.x.length : Int) + 1 + (z.length : Int))
    (hD : DatAll tl0 vs (prs.map pairDat)) (hT : @LT.lt Nat _ ll T) (hp : @LT.lt Nat _ ll p) (hrl : @LT.lt Nat _ ll rl) (htl : ∀ q ∈ tl0, @LT.lt Nat _ ll q.1) :
    (R1.mk S' (c.x ++ Str.ofString "[" ++ z) t' (c.vr ++ [.ref p]) kr' (c.vl ++ [.ref T]) kl'
      ((T, tupOf [.int a ta, .ref p, .int b tb]) :: (p, tupOf [.int 3 t0, .none, .ref rl, .bool bt]) :: (rl, listOf vs.toArray kk) :: (tl0 ++ c.tl)) (c.rows ++ [.lot prs bt])).P ll (i + 1) := by
  obtain ⟨_, hx, hDa, hok, hr, hg, hv, hl', ht⟩ := h
  have hzl := lot_len hz
  rw [Array.length_toList] at hzl
  have hzl : z.length ≤ 12 := hzl
  have e : (c.x ++ Str.ofString "[" ++ z).cps.toList = c.x.cps.toList ++ 91 :: z.cps.toList := by
    rw [Str.cps_append, Array.toList_append, Str.cps_append, Array.toList_append, ofs_br]
    simp
  have hold : ∀ q ∈ c.tl, q ∈ (T, tupOf [.int a ta, .ref p, .int b tb]) :: (p, tupOf [.int 3 t0, .none, .ref rl, .bool bt]) :: (rl, listOf vs.toArray kk) :: (tl0 ++ c.tl) := fun q hq =>
    .tail _ (.tail _ (.tail _ (List.mem_append.mpr (.inr hq))))
  have hdat : DatIn ((T, tupOf [.int a ta, .ref p, .int b tb]) :: (p, tupOf [.int 3 t0, .none, .ref rl, .bool bt]) :: (rl, listOf vs.toArray kk) :: (tl0 ++ c.tl)) (.ref p) (rowDat (.lot prs bt)) :=
    .tuple (vs := [.int 3 t0, .none, .ref rl, .bool bt]) (.tail _ (.head _)) (.cons (.int _ _) (.cons .none (.cons (.list (.tail _ (.tail _ (.head _))) (hD.mono fun q hq => .tail _ (.tail _ (.tail _ (List.mem_append.mpr (.inl hq)))))) (.cons (.bool _) .nil))))
  refine ⟨hS, ?_, ?_, ?_, ?_, ?_, ?_, ?_, ?_⟩
  · show (c.x ++ Str.ofString "[" ++ z).length ≤ _
    rw [Str.length_append, Str.length_append, ofs_br]
    show _ + 1 + _ ≤ _
    omega
  · show DatAll _ (c.vr ++ [.ref p]) ((c.rows ++ [Row.lot prs bt]).map rowDat)
    rw [List.map_append]
    exact (hDa.mono hold).append (.one hdat)
  · intro r hr
    rcases List.mem_append.mp hr with hr | hr
    · exact hok r hr
    · rw [List.mem_singleton.mp hr]; exact lot_row hz
  · show (c.rows ++ [Row.lot prs bt]).length = _
    rw [List.length_append, hr]; rfl
  · show Good (c.x ++ Str.ofString "[" ++ z).cps.toList _
    rw [e]
    exact hg.append (Good.lot hz)
  · intro v hm
    show LotV _ (c.x ++ Str.ofString "[" ++ z).cps.toList v
    rw [e]
    rcases List.mem_append.mp hm with hm | hm
    · exact (hv v hm).more hold
    · rw [List.mem_singleton.mp hm]
      refine ⟨T, a, ta, p, b, tb, prs, bt, rfl, .head _, hdat, lot_row hz, LotHere.new hz ?_ ?_⟩
      · rw [ha, Array.length_toList]; rfl
      · rw [hb, Array.length_toList, Array.length_toList]; rfl
  · show (c.vl ++ [Value.ref T]).length ≤ _
    rw [List.length_append]
    show _ + 1 ≤ _
    omega
  · intro q hq
    rcases List.mem_cons.mp hq with rfl | hq
    · exact hT
    · rcases List.mem_cons.mp hq with rfl | hq
      · exact hp
      · rcases List.mem_cons.mp hq with rfl | hq
        · exact hrl
        · rcases List.mem_append.mp hq with hq | hq
          · exact htl q hq
          · exact ht q hq
theorem any_ok : RowOk .any := by unfold RowOk; rfl
theorem one_ok : RowOk .one := by unfold RowOk; rfl
theorem sign_good {c : Nat} (h : c ∈ [97, 93, 94, 45, 37, 233]) : Good [c] [.sign c] ∧ RowOk (.sign c) := by
  simp only [List.mem_cons, List.not_mem_nil, or_false] at h
  refine ⟨Good.sign (by omega) (by omega) (by omega), ?_⟩
  unfold RowOk
  simp [rowDat, dOk, PyData.strOk]
  omega
theorem glob_some {w : World} {mean : ExcName → Option Value} {mg mb : Str → Option Value} {rest : List (Addr × Obj)} {x : Str} {tx : Tok} {rows : List Row} (hx : x.length ≤ 1000) (hg : gparse x.cps.toList = some rows) :
    TellsX w mean mg mb 57 30 300 rest [.str x tx] (fun r led' => ∃ pl vs kk tl, r = .ref pl ∧ PartsIn w tl vs rows ∧ led' = (pl, listOf vs.toArray kk) :: (tl ++ rest) ∧ (∀ z ∈ rest, z.1 < pl) ∧ (∀ z ∈ rest, ∀ p ∈ tl, z.1 < p.1)) :=
  (glob_core w mean mg mb rest x tx hx).mono (fun _ h => h) (by
    rintro r l (⟨h, _⟩ | ⟨rows', pl, vs, kk, tl, new, h, rfl, hp, rfl, rfl, h1, h2⟩)
    · rw [hg] at h; cases h
    · rw [hg] at h
      cases h
      exact ⟨_, fun _ h => h, pl, vs, kk, tl, rfl, hp, rfl, fun z hz => h1 z hz _ (.head _), fun z hz p hp => h1 z hz p (.tail _ hp)⟩)
theorem parts_led {g h : Heap} {L : Addr} {a e1 e2 e3 e4 e5 : Addr × Obj} {tl R : List (Addr × Obj)} (N : News g L h (a :: (tl ++ (e1 :: e2 :: e3 :: e4 :: e5 :: R)))) : News g L h (a :: e1 :: e2 :: e3 :: e4 :: e5 :: (tl ++ R)) := fun p hp => N p (by
  simp only [List.mem_cons, List.mem_append] at hp ⊢
  rcases hp with h | h | h | h | h | h | h | h <;> simp [h])
theorem row_at {w : World} {R : List (Addr × Obj)} {rows : List Row} {vp vr : List Value} {i : Nat} (hi : i < rows.length) (hp : PartsIn w R vp rows) (hd : DatAll R vr (rows.map rowDat)) (hok : ∀ r ∈ rows, RowOk r) :
    ∃ r v u, vp[i]? = some v ∧ vr[i]? = some u ∧ PartIn w R v r ∧ DatIn R u (rowDat r) ∧ dOk 8 (rowDat r) = true := by
  have hl := hp.length
  have hv : vp[i]? = some (vp[i]'(by omega)) := by rw [List.getElem?_eq_getElem]
  have hr : rows[i]? = some (rows[i]) := by rw [List.getElem?_eq_getElem]
  obtain ⟨u, hu, hD⟩ := hd.get (k := i) (by rw [List.length_map]; exact hi)
  rw [List.getElem_map] at hD
  exact ⟨rows[i], _, u, hv, hu, hp.get hv hr, hD, (hok _ (List.getElem_mem hi)).up⟩
section
variable {prog : Program} {w : World} {A : Around} {E : Value → Shared → Prop} {s : Shared} {Q : Value → Shared → Prop} {h₀ : Heap} {L l : Addr} {news : List (Addr × Obj)} {vs : List Value} {n : Nat}
theorem item_idx {value slice : PySem.Expr} {i : Nat} {u : Tok} {v : Value} (N : News h₀ L s.heap news) (hm : (l, listOf vs.toArray n) ∈ news) (hv : vs[i]? = some v) (hfit : i < 1000) (h : Q v s)
    (hs : subscripted slice false (.ref l) (.int (0 + (i : Int)) u) = operate [.ref l, .int (0 + (i : Int)) u] (getItem (.ref l) (.int (0 + (i : Int)) u)) := by with_unfolding_all rfl) :
    wpAny (model prog w) A (subscriptTail value slice (.ref l) (.int (0 + (i : Int)) u)) Q E s := by
  have hi : i < vs.length := by
    by_cases q : i < vs.length
    · exact q
    · rw [List.getElem?_eq_none (by omega)] at hv; cases hv
  refine item_led N hm (by omega) (by omega) (by omega) (fun v' hv' => ?_) hs
  rw [show (0 + (i : Int)).toNat = i by omega, hv] at hv'
  cases hv'
  exact h
end
theorem lotat_some {w : World} {mean : ExcName → Option Value} {mg mb : Str → Option Value} {rest : List (Addr × Obj)} {x : Str} {tx : Tok} {a b : Int} {ta : Tok} {prs : List (Nat × Nat)} {neg : Bool} (hx : x.length ≤ 1000) (hl : LotHere x.cps.toList a b prs neg) :
    TellsX w mean mg mb 50 20 200 rest [.str x tx, .int a ta] (fun r led' => ∃ q xx t tl, r = .ref q ∧ led' = (q, tupOf [.ref xx, .int b t]) :: (tl ++ rest) ∧ PartIn w (tl ++ rest) (.ref xx) (.lot prs neg)) := by
  obtain ⟨h0, h1, k, rfl, h2⟩ := hl
  rw [Array.length_toList] at h1
  have h1' : a ≤ x.length := by
    show a ≤ ((x.cps.size : Nat) : Int)
    omega
  obtain ⟨h3, h4⟩ := h2 []
  rw [List.append_nil] at h3 h4
  refine (lotat_core w mean mg mb rest x tx a ta hx h0 h1' _ rfl).mono (fun _ h => h) ?_
  rintro r l (⟨h, _⟩ | ⟨prs', k', q, t, xx, d, k1, k2, k3, k4, rl, vs, kk, tl, new, h, rfl, hD, rfl, rfl, _⟩)
  · rw [h3] at h; cases h
  · rw [h3] at h
    cases h
    rw [h4]
    refine ⟨_, fun _ h => h, q, xx, t, (xx, instObj 39 d) :: (d, partDict w k1 k2 k3 k4 (.int 3 195) .none (.ref rl) (.bool neg)) :: (rl, listOf vs.toArray kk) :: tl, rfl, rfl, ?_⟩
    exact .lot (List.mem_append.mpr (.inl (.head _))) (List.mem_append.mpr (.inl (.tail _ (.head _)))) (List.mem_append.mpr (.inl (.tail _ (.tail _ (.head _))))) (hD.mono fun p hp => List.mem_append.mpr (.inl (.tail _ (.tail _ (.tail _ hp)))))
theorem pick_right {g h : Heap} {L : Addr} {a b : Addr × Obj} {R rest : List (Addr × Obj)} (N : News g L h (a :: b :: R)) (hR : ∀ p ∈ rest, p ∈ R) : News g L h (a :: rest) := fun p hp => N p (by
  rcases List.mem_cons.mp hp with h | hp
  · rw [h]; exact .head _
  · exact .tail _ (.tail _ (hR p hp)))
theorem lot_led {g h : Heap} {L : Addr} {a b c e1 e2 e3 e4 e5 : Addr × Obj} {tl R : List (Addr × Obj)} (N : News g L h (a :: b :: c :: (tl ++ (e1 :: e2 :: e3 :: e4 :: e5 :: R)))) : News g L h (a :: b :: c :: e1 :: e2 :: e3 :: e4 :: e5 :: (tl ++ R)) := fun p hp => N p (by
  simp only [List.mem_cons, List.mem_append] at hp ⊢
  rcases hp with h | h | h | h | h | h | h | h | h | h <;> simp [h])
section
local macro_rules | `(tactic| walk_at "eval ListComp") => `(tactic| (k_here; k_dflt (refine LCt.ListComp_T (F₀ := by k_asm) (by with_unfolding_all rfl) (by decide) (by rfl) (by decide) (by rfl) ?_); k_dflt lct_toSrc))
local macro_rules | `(tactic| walk_at "CompSrcT") => `(tactic| refine stop_elim ?_)
local macro_rules | `(tactic| walk_at "call builtin:len") => `(tactic| (k_here; (with_reducible show wpAny _ _ (call (Value.builtin "len") [Value.ref _]) _ _ _); k_dflt (refine' len_led ?k1 ?k2 ?k3 ?_; (case k1 => k_asm); (case k2 => k_mem); (case k3 => omega); k_whole)))
local macro_rules | `(tactic| walk_at "subscriptTail") => `(tactic| (k_here; (with_reducible show wpAny _ _ (subscriptTail _ _ (Value.ref _) (Value.int (0 + _) _)) _ _ _); k_dflt (refine' item_idx ?k1 ?k2 ?k3 ?k4 ?_ ?k6; (case k1 => k_asm); (case k2 => k_mem); (case k3 => assumption); (case k4 => omega); (case k6 => with_unfolding_all rfl); k_whole)))
local macro_rules | `(tactic| walk_at "exec For Tuple Name cons nil") => `(tactic| (k_here; with_unfolding_all refine' For_L ?_ ?k1; (case k1 => intro _; rfl)))
local macro_rules | `(tactic| walk_at "compareOp NotEq ref ref") => `(tactic| (k_here; (with_reducible show wpAny _ _ (compareOp CmpOp.NotEq (Value.ref _) (Value.ref _)) _ _ _); k_dflt (refine' dat_ne ?k1 ?k2 ?k3 ?k4 ?k5 ?_; (case k1 => k_asm); (case k2 => assumption); (case k3 => (refine DatIn.mono ?_ (by assumption); intro p hp; repeat' (first | exact hp | (refine List.mem_append.mpr (.inr ?_)) | refine List.Mem.tail _ ?_))); (case k4 => assumption); (case k5 => (simp only [units_deeper, units_caller]; omega)))))
theorem right_core (w : World) (mean : ExcName → Option Value) (mg mb : Str → Option Value) (src : Addr) (S : Obj) (rest : List (Addr × Obj))
    (hs : SrcIs S) (hne : ∀ p ∈ rest, p.1 ≠ src) :
    TellsX w mean mg mb 123 60 900 ((src, S) :: rest) [.ref src]
      (fun r led' => ∃ S', (r = .bool true ∧ SrcIs S') ∧ led' = (src, S') :: rest) := by
  w_top off
  unfold TellsX; k_fill
  intro dp un gd cn cs fa ccd cl outer A₀ base h₀ L m s Q E B F X N T hk hd hu hret
  refine wpAny_call ?_
  k_dflt (refine' code_defC ?k1 ?k2 ?k3 ?k4 ?k5 ?kA ?kF ?kK ?k6 ?k7 ?k8 ?k9 ?kB ?kD ?_ ?c2 ?c3 ?c4; (case kA => exact rfl); (case kF => exact rfl); (case kK => assumption); (case k1 => k_asm); (case k2 => k_asm); (case k3 => k_asm); (case k4 => k_asm); (case k5 => k_asm); (case k6 => k_is); (case k7 => k_is); (case k8 => ktr_room); (case k9 => exact BindsTo.of_eq rfl); (case kB => exact rfl); (case kD => decide +kernel); (case c2 => exact rfl); (case c3 => exact rfl); (case c4 => exact rfl); k_whole; intro g' L' h' tk' cells' FG' F' N' Y' B' X' T' l1; (try k_lt l1); k_cells Y'; (try simp only [List.cons_append, List.nil_append] at N'); (try dsimp only); (try k_fold))
  rename (_ < _ ∧ AllLt _ rest) => l9
  obtain ⟨Lp, hL1, hL2⟩ := get_addr l9.2
  subst hL2
  have r1 := ne_up1 hL1
  have r2 := ne_up2 hL1
  refine cut (pre := [_]) (C0.led src Lp rest) (C0.ps src) (C0.P src Lp rest) (by assumption) ?_ ?_
  · (((try k_fold); k_steps); repeat' (first | (show wpAny _ _ _ _ _ _; k_here; (with_reducible show wpAny _ _ (call (Value.ref 118) [Value.ref _, Value.str _ _]) _ _ _); k_dflt (refine' tellsX_use ?yk1 ?yk2 ?yk3 ?yk4 ?yk5 ?yk6 (open_spec ?ytu ?yts ?ytp ?ytq) ?ykd ?yku ?_; (case yk1 => k_asm); (case yk2 => k_asm); (case yk3 => k_asm); (case yk4 => k_asm); (case yk5 => k_asm); (case yk6 => exact rfl); (case ytu => k_updF); (case yts => assumption); (case ytp => omega); (case ytq => assumption); (case ykd => ktr_room); (case yku => ktr_units)); intro r' l' h' tk' F' N' hp'; obtain ⟨S', ⟨hr', hS'⟩, hl'⟩ := hp'; subst hr'; subst hl'; (try dsimp only at N'); (try dsimp only); (try k_sweep); k_steps) | (show wpAny _ _ _ _ _ _; k_here; (with_reducible show wpAny _ _ (call (Value.ref 106) [Value.ref _]) _ _ _); k_dflt (refine' tellsX_use ?yk1 ?yk2 ?yk3 ?yk4 ?yk5 ?yk6 (lawrow_spec ?yu) ?ykd ?yku ?_; (case yk1 => k_asm); (case yk2 => k_asm); (case yk3 => k_asm); (case yk4 => k_asm); (case yk5 => k_asm); (case yk6 => exact rfl); (case yu => (refine PartIn.mono ?_ (by assumption); intro p hp; repeat' (first | exact hp | refine List.Mem.tail _ ?_))); (case ykd => ktr_room); (case yku => ktr_units)); intro r' l' h' tk' F' N' hp'; obtain ⟨q', vs', n', hr', hl', hq', hD'⟩ := hp'; subst hr'; subst hl'; (try dsimp only at N'); (try dsimp only); (try k_sweep); k_steps) | (show wpAny _ _ _ _ _ _; k_here; (with_reducible show wpAny _ _ (call (Value.ref 50) [Value.str _ _, Value.int _ _]) _ _ _); k_dflt (refine' tellsX_use ?yk1 ?yk2 ?yk3 ?yk4 ?yk5 ?yk6 (lotat_some ?ytu ?yts) ?ykd ?yku ?_; (case yk1 => k_asm); (case yk2 => k_asm); (case yk3 => k_asm); (case yk4 => k_asm); (case yk5 => k_asm); (case yk6 => exact rfl); (case yts => assumption); (case ytu => omega); (case ykd => ktr_room); (case yku => ktr_units)); intro r' l' h' tk' F' N' hp'; obtain ⟨q', xx', t', tl', hr', hl', hP'⟩ := hp'; subst hr'; subst hl'; (try dsimp only at N'); (try dsimp only); (try k_sweep); k_steps) | (show wpAny _ _ _ _ _ _; k_here; (with_reducible show wpAny _ _ (call (Value.ref 111) [_, _]) _ _ _); k_dflt (refine' tellsX_use ?yk1 ?yk2 ?yk3 ?yk4 ?yk5 ?yk6 (partright_spec ?ytu ?yts ?ytp) ?ykd ?yku ?_; (case yk1 => k_asm); (case yk2 => k_asm); (case yk3 => k_asm); (case yk4 => k_asm); (case yk5 => k_asm); (case yk6 => exact rfl); (case ytp => assumption); (case ytu => (refine PartIn.mono ?_ (by assumption); intro p hp; repeat' (first | exact hp | refine List.Mem.tail _ ?_))); (case yts => (refine DatIn.mono ?_ (by assumption); intro p hp; repeat' (first | exact hp | refine List.Mem.tail _ ?_))); (case ykd => ktr_room); (case yku => ktr_units)); intro r' l' h' tk' F' N' hp'; obtain ⟨hr', hl'⟩ := hp'; subst hr'; subst hl'; (try dsimp only at N'); (try dsimp only); (try k_sweep); k_steps) | (show wpAny _ _ _ _ _ _; k_here; (with_reducible show wpAny _ _ (call (Value.ref 78) [Value.ref _, Value.ref _]) _ _ _); k_dflt (refine' tellsX_use ?yk1 ?yk2 ?yk3 ?yk4 ?yk5 ?yk6 (one_spec ?yu ?ys ?ym ?yn ?yp ?yq) ?ykd ?yku ?_; (case yk1 => k_asm); (case yk2 => k_asm); (case yk3 => k_asm); (case yk4 => k_asm); (case yk5 => k_asm); (case yk6 => exact rfl); (case yu => k_updF); (case ys => assumption); (case ym => k_mem); (case yn => k_ne); (case yp => exact Nat.succ_pos _); (case yq => exact Nat.le_of_ble_eq_true rfl); (case ykd => ktr_room); (case yku => ktr_units)); intro r' l' h' tk' F' N' hp'; obtain ⟨S', hr', hS', hl'⟩ := hp'; subst hl'; (try dsimp only at N'); (try dsimp only); (try k_sweep); (have hc9 := chars_of [97, 93, 94, 45, 37, 233] (by kernel_rfl!) hr'; obtain ⟨c', tc', hc', hcs'⟩ := hc9; clear hr'; subst hc'); k_steps)))
    refine' cut_end ⟨_, _, _, _, _, _⟩ ?e1 ?e2 ?e3 ?e4 ?e5
    case e1 => k_asm
    case e2 => k_asm
    case e4 => kst_all
    case' e5 =>
      dsimp only [C0.P]
      rename (_ < _ ∧ Lp + 1 + 1 < _ ∧ Lp + 1 < _ ∧ src < _ ∧ AllLt _ rest) => hq2
      rename (Lp + 1 + 1 < _ ∧ Lp + 1 < _ ∧ src < _ ∧ AllLt _ rest) => hq1
      refine ⟨by assumption, ?oPd, by assumption, ⟨hq2.1, hq1.2.2.1, hq1.1, hq1.2.1, hq1.2.2.2⟩, ⟨hq2.2.2.2.1, hq2.2.1, hq2.2.2.1, hq2.2.2.2.2⟩⟩
    case e3 => dsimp only [C0.led]; refine List.forall_mem_cons.mpr ⟨by k_memK, List.forall_mem_cons.mpr ⟨by k_memK, List.forall_mem_cons.mpr ⟨by k_memK, List.forall_mem_cons.mpr ⟨by k_memK, List.forall_mem_cons.mpr ⟨by k_memK, fun p hp => ?_⟩⟩⟩⟩⟩; (repeat' (first | exact hp | refine List.Mem.tail _ ?_))
    case e5 => assumption
  · intro c h9 tk9 m9 hP9 F9 N9
    obtain ⟨S1, t1, rr, ll, oP, oR⟩ := c
    obtain ⟨hS1, hoP, hoR, hA, hB⟩ := hP9
    dsimp only [C0.led, C0.ps] at *
    (((try k_fold); k_steps); repeat' (first | (show wpAny _ _ _ _ _ _; k_here; (with_reducible show wpAny _ _ (call (Value.ref 118) [Value.ref _, Value.str _ _]) _ _ _); k_dflt (refine' tellsX_use ?yk1 ?yk2 ?yk3 ?yk4 ?yk5 ?yk6 (open_spec ?ytu ?yts ?ytp ?ytq) ?ykd ?yku ?_; (case yk1 => k_asm); (case yk2 => k_asm); (case yk3 => k_asm); (case yk4 => k_asm); (case yk5 => k_asm); (case yk6 => exact rfl); (case ytu => k_updF); (case yts => assumption); (case ytp => omega); (case ytq => assumption); (case ykd => ktr_room); (case yku => ktr_units)); intro r' l' h' tk' F' N' hp'; obtain ⟨S', ⟨hr', hS'⟩, hl'⟩ := hp'; subst hr'; subst hl'; (try dsimp only at N'); (try dsimp only); (try k_sweep); k_steps) | (show wpAny _ _ _ _ _ _; k_here; (with_reducible show wpAny _ _ (call (Value.ref 106) [Value.ref _]) _ _ _); k_dflt (refine' tellsX_use ?yk1 ?yk2 ?yk3 ?yk4 ?yk5 ?yk6 (lawrow_spec ?yu) ?ykd ?yku ?_; (case yk1 => k_asm); (case yk2 => k_asm); (case yk3 => k_asm); (case yk4 => k_asm); (case yk5 => k_asm); (case yk6 => exact rfl); (case yu => (refine PartIn.mono ?_ (by assumption); intro p hp; repeat' (first | exact hp | refine List.Mem.tail _ ?_))); (case ykd => ktr_room); (case yku => ktr_units)); intro r' l' h' tk' F' N' hp'; obtain ⟨q', vs', n', hr', hl', hq', hD'⟩ := hp'; subst hr'; subst hl'; (try dsimp only at N'); (try dsimp only); (try k_sweep); k_steps) | (show wpAny _ _ _ _ _ _; k_here; (with_reducible show wpAny _ _ (call (Value.ref 50) [Value.str _ _, Value.int _ _]) _ _ _); k_dflt (refine' tellsX_use ?yk1 ?yk2 ?yk3 ?yk4 ?yk5 ?yk6 (lotat_some ?ytu ?yts) ?ykd ?yku ?_; (case yk1 => k_asm); (case yk2 => k_asm); (case yk3 => k_asm); (case yk4 => k_asm); (case yk5 => k_asm); (case yk6 => exact rfl); (case yts => assumption); (case ytu => omega); (case ykd => ktr_room); (case yku => ktr_units)); intro r' l' h' tk' F' N' hp'; obtain ⟨q', xx', t', tl', hr', hl', hP'⟩ := hp'; subst hr'; subst hl'; (try dsimp only at N'); (try dsimp only); (try k_sweep); k_steps) | (show wpAny _ _ _ _ _ _; k_here; (with_reducible show wpAny _ _ (call (Value.ref 111) [_, _]) _ _ _); k_dflt (refine' tellsX_use ?yk1 ?yk2 ?yk3 ?yk4 ?yk5 ?yk6 (partright_spec ?ytu ?yts ?ytp) ?ykd ?yku ?_; (case yk1 => k_asm); (case yk2 => k_asm); (case yk3 => k_asm); (case yk4 => k_asm); (case yk5 => k_asm); (case yk6 => exact rfl); (case ytp => assumption); (case ytu => (refine PartIn.mono ?_ (by assumption); intro p hp; repeat' (first | exact hp | refine List.Mem.tail _ ?_))); (case yts => (refine DatIn.mono ?_ (by assumption); intro p hp; repeat' (first | exact hp | refine List.Mem.tail _ ?_))); (case ykd => ktr_room); (case yku => ktr_units)); intro r' l' h' tk' F' N' hp'; obtain ⟨hr', hl'⟩ := hp'; subst hr'; subst hl'; (try dsimp only at N'); (try dsimp only); (try k_sweep); k_steps) | (show wpAny _ _ _ _ _ _; k_here; (with_reducible show wpAny _ _ (call (Value.ref 78) [Value.ref _, Value.ref _]) _ _ _); k_dflt (refine' tellsX_use ?yk1 ?yk2 ?yk3 ?yk4 ?yk5 ?yk6 (one_spec ?yu ?ys ?ym ?yn ?yp ?yq) ?ykd ?yku ?_; (case yk1 => k_asm); (case yk2 => k_asm); (case yk3 => k_asm); (case yk4 => k_asm); (case yk5 => k_asm); (case yk6 => exact rfl); (case yu => k_updF); (case ys => assumption); (case ym => k_mem); (case yn => k_ne); (case yp => exact Nat.succ_pos _); (case yq => exact Nat.le_of_ble_eq_true rfl); (case ykd => ktr_room); (case yku => ktr_units)); intro r' l' h' tk' F' N' hp'; obtain ⟨S', hr', hS', hl'⟩ := hp'; subst hl'; (try dsimp only at N'); (try dsimp only); (try k_sweep); (have hc9 := chars_of [97, 93, 94, 45, 37, 233] (by kernel_rfl!) hr'; obtain ⟨c', tc', hc', hcs'⟩ := hc9; clear hr'; subst hc'); k_steps)))
    show wpAny _ _ _ _ _ _
    refine' tellsX_use ?k1 ?k2 ?k3 ?k4 ?k5 ?k6 (take_spec ?tu ?ts ?tp ?tq) ?kd ?ku ?_
    case k1 => k_asm
    case k2 => k_asm
    case k3 => k_asm
    case k4 => k_asm
    case k5 => k_asm
    case k6 => exact rfl
    case tu => k_updF
    case ts => assumption
    case tp => decide
    case tq => decide
    case kd => ktr_room
    case ku => ktr_units
    intro r7 l7 h7 tk7 F7 N7 hp7
    obtain ⟨S7, ⟨d7, td7, hr7, hd0, hd1⟩, hS7, hl7⟩ := hp7
    subst hr7
    subst hl7
    try dsimp only at N7
    try dsimp only
    try k_sweep
    (((try k_fold); k_steps); repeat' (first | (show wpAny _ _ _ _ _ _; k_here; (with_reducible show wpAny _ _ (call (Value.ref 118) [Value.ref _, Value.str _ _]) _ _ _); k_dflt (refine' tellsX_use ?yk1 ?yk2 ?yk3 ?yk4 ?yk5 ?yk6 (open_spec ?ytu ?yts ?ytp ?ytq) ?ykd ?yku ?_; (case yk1 => k_asm); (case yk2 => k_asm); (case yk3 => k_asm); (case yk4 => k_asm); (case yk5 => k_asm); (case yk6 => exact rfl); (case ytu => k_updF); (case yts => assumption); (case ytp => omega); (case ytq => assumption); (case ykd => ktr_room); (case yku => ktr_units)); intro r' l' h' tk' F' N' hp'; obtain ⟨S', ⟨hr', hS'⟩, hl'⟩ := hp'; subst hr'; subst hl'; (try dsimp only at N'); (try dsimp only); (try k_sweep); k_steps) | (show wpAny _ _ _ _ _ _; k_here; (with_reducible show wpAny _ _ (call (Value.ref 106) [Value.ref _]) _ _ _); k_dflt (refine' tellsX_use ?yk1 ?yk2 ?yk3 ?yk4 ?yk5 ?yk6 (lawrow_spec ?yu) ?ykd ?yku ?_; (case yk1 => k_asm); (case yk2 => k_asm); (case yk3 => k_asm); (case yk4 => k_asm); (case yk5 => k_asm); (case yk6 => exact rfl); (case yu => (refine PartIn.mono ?_ (by assumption); intro p hp; repeat' (first | exact hp | refine List.Mem.tail _ ?_))); (case ykd => ktr_room); (case yku => ktr_units)); intro r' l' h' tk' F' N' hp'; obtain ⟨q', vs', n', hr', hl', hq', hD'⟩ := hp'; subst hr'; subst hl'; (try dsimp only at N'); (try dsimp only); (try k_sweep); k_steps) | (show wpAny _ _ _ _ _ _; k_here; (with_reducible show wpAny _ _ (call (Value.ref 50) [Value.str _ _, Value.int _ _]) _ _ _); k_dflt (refine' tellsX_use ?yk1 ?yk2 ?yk3 ?yk4 ?yk5 ?yk6 (lotat_some ?ytu ?yts) ?ykd ?yku ?_; (case yk1 => k_asm); (case yk2 => k_asm); (case yk3 => k_asm); (case yk4 => k_asm); (case yk5 => k_asm); (case yk6 => exact rfl); (case yts => assumption); (case ytu => omega); (case ykd => ktr_room); (case yku => ktr_units)); intro r' l' h' tk' F' N' hp'; obtain ⟨q', xx', t', tl', hr', hl', hP'⟩ := hp'; subst hr'; subst hl'; (try dsimp only at N'); (try dsimp only); (try k_sweep); k_steps) | (show wpAny _ _ _ _ _ _; k_here; (with_reducible show wpAny _ _ (call (Value.ref 111) [_, _]) _ _ _); k_dflt (refine' tellsX_use ?yk1 ?yk2 ?yk3 ?yk4 ?yk5 ?yk6 (partright_spec ?ytu ?yts ?ytp) ?ykd ?yku ?_; (case yk1 => k_asm); (case yk2 => k_asm); (case yk3 => k_asm); (case yk4 => k_asm); (case yk5 => k_asm); (case yk6 => exact rfl); (case ytp => assumption); (case ytu => (refine PartIn.mono ?_ (by assumption); intro p hp; repeat' (first | exact hp | refine List.Mem.tail _ ?_))); (case yts => (refine DatIn.mono ?_ (by assumption); intro p hp; repeat' (first | exact hp | refine List.Mem.tail _ ?_))); (case ykd => ktr_room); (case yku => ktr_units)); intro r' l' h' tk' F' N' hp'; obtain ⟨hr', hl'⟩ := hp'; subst hr'; subst hl'; (try dsimp only at N'); (try dsimp only); (try k_sweep); k_steps) | (show wpAny _ _ _ _ _ _; k_here; (with_reducible show wpAny _ _ (call (Value.ref 78) [Value.ref _, Value.ref _]) _ _ _); k_dflt (refine' tellsX_use ?yk1 ?yk2 ?yk3 ?yk4 ?yk5 ?yk6 (one_spec ?yu ?ys ?ym ?yn ?yp ?yq) ?ykd ?yku ?_; (case yk1 => k_asm); (case yk2 => k_asm); (case yk3 => k_asm); (case yk4 => k_asm); (case yk5 => k_asm); (case yk6 => exact rfl); (case yu => k_updF); (case ys => assumption); (case ym => k_mem); (case yn => k_ne); (case yp => exact Nat.succ_pos _); (case yq => exact Nat.le_of_ble_eq_true rfl); (case ykd => ktr_room); (case yku => ktr_units)); intro r' l' h' tk' F' N' hp'; obtain ⟨S', hr', hS', hl'⟩ := hp'; subst hl'; (try dsimp only at N'); (try dsimp only); (try k_sweep); (have hc9 := chars_of [97, 93, 94, 45, 37, 233] (by kernel_rfl!) hr'; obtain ⟨c', tc', hc', hcs'⟩ := hc9; clear hr'; subst hc'); k_steps)))
    show wpAny _ _ _ _ _ _
    refine range_inv (σ := R1) (R1.led src Lp rr ll oP oR rest) R1.ps (R1.P ll) [Str.ofString "way", Str.ofString "written", Str.ofString "row", Str.ofString "sign"] ⟨S7, Str.ofString "", t1, [], 0, [], 0, [], []⟩ rfl (by assumption) (small_one (by decide) (by decide) (by omega) (by omega)) (rangeSize_nat _ _) (by k_asm) (by k_asm) (fun _ h => h) ?_ ?_ ?_ ?_
    · dsimp only [R1.ps]; k_dflt kst_all
    · exact ⟨hS7, by show (Str.ofString "").length ≤ 20 * 0; decide +kernel, .nil, fun _ h => (nomatch h), rfl, by rw [ofs_none]; exact Good.nil, fun _ h => (nomatch h), Nat.le_refl _, fun _ h => (nomatch h)⟩
    · intro i c u tt h2 tk2 own hi hP hoff F2 N2
      have hPk := hP
      obtain ⟨S2, x2, t2, vr2, kr2, vl2, kl2, tl2, rows2⟩ := c
      obtain ⟨hS2, hx2, hD2, hok2, hr2, hg2, hv2, hl2, htl2⟩ := hP
      dsimp only [R1.led, R1.ps] at *
      simp only [List.cons_append] at N2
      obtain ⟨R, hR⟩ : ∃ R, R = tl2 ++ rest ++ own := ⟨_, rfl⟩
      rw [← hR] at N2
      have hR0 : ∀ p ∈ R, p.1 ≠ src ∧ p.1 ≠ rr ∧ p.1 ≠ ll ∧ p.1 ≠ Lp + 1 ∧ p.1 ≠ Lp + 1 + 1 := by
        intro p hp
        rw [hR] at hp
        rcases List.mem_append.mp hp with hp | hp
        · rcases List.mem_append.mp hp with hp | hp
          · have := htl2 p hp
            have q1 := hA.1
            have q2 := hB.1
            have q3 := hB.2.1
            have q4 := hB.2.2.1
            exact ⟨neN (by omega), neN (by omega), neN (by omega), neN (by omega), neN (by omega)⟩
          · exact ⟨hne p hp, ne_ofLt hA.2.2.2.2 p hp, ne_ofLt hB.2.2.2 p hp, r1 p hp, r2 p hp⟩
        · exact ⟨off_of hoff (.tail _ (.tail _ (.head _))) p hp, off_of hoff (.tail _ (.tail _ (.tail _ (.head _)))) p hp, off_of hoff (.tail _ (.tail _ (.tail _ (.tail _ (.head _))))) p hp, off_of hoff (.tail _ (.head _)) p hp, off_of hoff (.head _) p hp⟩
      have hR1 : ∀ p ∈ R, p.1 ≠ src := fun p hp => (hR0 p hp).1
      have hR2 : ∀ p ∈ R, p.1 ≠ rr := fun p hp => (hR0 p hp).2.1
      have hR3 : ∀ p ∈ R, p.1 ≠ ll := fun p hp => (hR0 p hp).2.2.1
      have hR4 : ∀ p ∈ R, p.1 ≠ Lp + 1 := fun p hp => (hR0 p hp).2.2.2.1
      have hR5 : ∀ p ∈ R, p.1 ≠ Lp + 1 + 1 := fun p hp => (hR0 p hp).2.2.2.2
      have hi3 : i < 5 := by omega
      have hvr : vr2.length ≤ 5 := by
        have := hD2.length
        rw [List.length_map] at this
        omega
      have hvl : vl2.length ≤ 5 := by omega
      have hx3 : x2.length ≤ 100 := by omega
      clear hR0
      clear hS7 hd0 hd1
      (((try k_fold); k_steps); repeat' (first | (show wpAny _ _ _ _ _ _; k_here; (with_reducible show wpAny _ _ (call (Value.ref 118) [Value.ref _, Value.str _ _]) _ _ _); k_dflt (refine' tellsX_use ?yk1 ?yk2 ?yk3 ?yk4 ?yk5 ?yk6 (open_spec ?ytu ?yts ?ytp ?ytq) ?ykd ?yku ?_; (case yk1 => k_asm); (case yk2 => k_asm); (case yk3 => k_asm); (case yk4 => k_asm); (case yk5 => k_asm); (case yk6 => exact rfl); (case ytu => k_updF); (case yts => assumption); (case ytp => omega); (case ytq => assumption); (case ykd => ktr_room); (case yku => ktr_units)); intro r' l' h' tk' F' N' hp'; obtain ⟨S', ⟨hr', hS'⟩, hl'⟩ := hp'; subst hr'; subst hl'; (try dsimp only at N'); (try dsimp only); (try k_sweep); k_steps) | (show wpAny _ _ _ _ _ _; k_here; (with_reducible show wpAny _ _ (call (Value.ref 106) [Value.ref _]) _ _ _); k_dflt (refine' tellsX_use ?yk1 ?yk2 ?yk3 ?yk4 ?yk5 ?yk6 (lawrow_spec ?yu) ?ykd ?yku ?_; (case yk1 => k_asm); (case yk2 => k_asm); (case yk3 => k_asm); (case yk4 => k_asm); (case yk5 => k_asm); (case yk6 => exact rfl); (case yu => (refine PartIn.mono ?_ (by assumption); intro p hp; repeat' (first | exact hp | refine List.Mem.tail _ ?_))); (case ykd => ktr_room); (case yku => ktr_units)); intro r' l' h' tk' F' N' hp'; obtain ⟨q', vs', n', hr', hl', hq', hD'⟩ := hp'; subst hr'; subst hl'; (try dsimp only at N'); (try dsimp only); (try k_sweep); k_steps) | (show wpAny _ _ _ _ _ _; k_here; (with_reducible show wpAny _ _ (call (Value.ref 50) [Value.str _ _, Value.int _ _]) _ _ _); k_dflt (refine' tellsX_use ?yk1 ?yk2 ?yk3 ?yk4 ?yk5 ?yk6 (lotat_some ?ytu ?yts) ?ykd ?yku ?_; (case yk1 => k_asm); (case yk2 => k_asm); (case yk3 => k_asm); (case yk4 => k_asm); (case yk5 => k_asm); (case yk6 => exact rfl); (case yts => assumption); (case ytu => omega); (case ykd => ktr_room); (case yku => ktr_units)); intro r' l' h' tk' F' N' hp'; obtain ⟨q', xx', t', tl', hr', hl', hP'⟩ := hp'; subst hr'; subst hl'; (try dsimp only at N'); (try dsimp only); (try k_sweep); k_steps) | (show wpAny _ _ _ _ _ _; k_here; (with_reducible show wpAny _ _ (call (Value.ref 111) [_, _]) _ _ _); k_dflt (refine' tellsX_use ?yk1 ?yk2 ?yk3 ?yk4 ?yk5 ?yk6 (partright_spec ?ytu ?yts ?ytp) ?ykd ?yku ?_; (case yk1 => k_asm); (case yk2 => k_asm); (case yk3 => k_asm); (case yk4 => k_asm); (case yk5 => k_asm); (case yk6 => exact rfl); (case ytp => assumption); (case ytu => (refine PartIn.mono ?_ (by assumption); intro p hp; repeat' (first | exact hp | refine List.Mem.tail _ ?_))); (case yts => (refine DatIn.mono ?_ (by assumption); intro p hp; repeat' (first | exact hp | refine List.Mem.tail _ ?_))); (case ykd => ktr_room); (case yku => ktr_units)); intro r' l' h' tk' F' N' hp'; obtain ⟨hr', hl'⟩ := hp'; subst hr'; subst hl'; (try dsimp only at N'); (try dsimp only); (try k_sweep); k_steps) | (show wpAny _ _ _ _ _ _; k_here; (with_reducible show wpAny _ _ (call (Value.ref 78) [Value.ref _, Value.ref _]) _ _ _); k_dflt (refine' tellsX_use ?yk1 ?yk2 ?yk3 ?yk4 ?yk5 ?yk6 (one_spec ?yu ?ys ?ym ?yn ?yp ?yq) ?ykd ?yku ?_; (case yk1 => k_asm); (case yk2 => k_asm); (case yk3 => k_asm); (case yk4 => k_asm); (case yk5 => k_asm); (case yk6 => exact rfl); (case yu => k_updF); (case ys => assumption); (case ym => k_mem); (case yn => k_ne); (case yp => exact Nat.succ_pos _); (case yq => exact Nat.le_of_ble_eq_true rfl); (case ykd => ktr_room); (case yku => ktr_units)); intro r' l' h' tk' F' N' hp'; obtain ⟨S', hr', hS', hl'⟩ := hp'; subst hl'; (try dsimp only at N'); (try dsimp only); (try k_sweep); (have hc9 := chars_of [97, 93, 94, 45, 37, 233] (by kernel_rfl!) hr'; obtain ⟨c', tc', hc', hcs'⟩ := hc9; clear hr'; subst hc'); k_steps)))
      show wpAny _ _ _ _ _ _
      refine' tellsX_use ?k1 ?k2 ?k3 ?k4 ?k5 ?k6 (take_spec ?tu ?ts ?tp ?tq) ?kd ?ku ?_
      case k1 => k_asm
      case k2 => k_asm
      case k3 => k_asm
      case k4 => k_asm
      case k5 => k_asm
      case k6 => exact rfl
      case tu => k_updF
      case ts => assumption
      case tp => decide
      case tq => decide
      case kd => ktr_room
      case ku => ktr_units
      intro r7 l7 h7 tk7 F7 N7 hp7
      obtain ⟨S7, ⟨d7, td7, hr7, hd0, hd1⟩, hS7, hl7⟩ := hp7
      subst hr7
      subst hl7
      try dsimp only at N7
      try dsimp only
      try k_sweep
      have hsp : d7 = 0 ∨ d7 = 1 ∨ (2 ≤ d7 ∧ d7 < 4) ∨ 4 ≤ d7 := by omega
      rcases hsp with rfl | rfl | hsp | hsp
      all_goals (((try k_fold); k_steps); repeat' (first | (show wpAny _ _ _ _ _ _; k_here; (with_reducible show wpAny _ _ (call (Value.ref 118) [Value.ref _, Value.str _ _]) _ _ _); k_dflt (refine' tellsX_use ?yk1 ?yk2 ?yk3 ?yk4 ?yk5 ?yk6 (open_spec ?ytu ?yts ?ytp ?ytq) ?ykd ?yku ?_; (case yk1 => k_asm); (case yk2 => k_asm); (case yk3 => k_asm); (case yk4 => k_asm); (case yk5 => k_asm); (case yk6 => exact rfl); (case ytu => k_updF); (case yts => assumption); (case ytp => omega); (case ytq => assumption); (case ykd => ktr_room); (case yku => ktr_units)); intro r' l' h' tk' F' N' hp'; obtain ⟨S', ⟨hr', hS'⟩, hl'⟩ := hp'; subst hr'; subst hl'; (try dsimp only at N'); (try dsimp only); (try k_sweep); k_steps) | (show wpAny _ _ _ _ _ _; k_here; (with_reducible show wpAny _ _ (call (Value.ref 106) [Value.ref _]) _ _ _); k_dflt (refine' tellsX_use ?yk1 ?yk2 ?yk3 ?yk4 ?yk5 ?yk6 (lawrow_spec ?yu) ?ykd ?yku ?_; (case yk1 => k_asm); (case yk2 => k_asm); (case yk3 => k_asm); (case yk4 => k_asm); (case yk5 => k_asm); (case yk6 => exact rfl); (case yu => (refine PartIn.mono ?_ (by assumption); intro p hp; repeat' (first | exact hp | refine List.Mem.tail _ ?_))); (case ykd => ktr_room); (case yku => ktr_units)); intro r' l' h' tk' F' N' hp'; obtain ⟨q', vs', n', hr', hl', hq', hD'⟩ := hp'; subst hr'; subst hl'; (try dsimp only at N'); (try dsimp only); (try k_sweep); k_steps) | (show wpAny _ _ _ _ _ _; k_here; (with_reducible show wpAny _ _ (call (Value.ref 50) [Value.str _ _, Value.int _ _]) _ _ _); k_dflt (refine' tellsX_use ?yk1 ?yk2 ?yk3 ?yk4 ?yk5 ?yk6 (lotat_some ?ytu ?yts) ?ykd ?yku ?_; (case yk1 => k_asm); (case yk2 => k_asm); (case yk3 => k_asm); (case yk4 => k_asm); (case yk5 => k_asm); (case yk6 => exact rfl); (case yts => assumption); (case ytu => omega); (case ykd => ktr_room); (case yku => ktr_units)); intro r' l' h' tk' F' N' hp'; obtain ⟨q', xx', t', tl', hr', hl', hP'⟩ := hp'; subst hr'; subst hl'; (try dsimp only at N'); (try dsimp only); (try k_sweep); k_steps) | (show wpAny _ _ _ _ _ _; k_here; (with_reducible show wpAny _ _ (call (Value.ref 111) [_, _]) _ _ _); k_dflt (refine' tellsX_use ?yk1 ?yk2 ?yk3 ?yk4 ?yk5 ?yk6 (partright_spec ?ytu ?yts ?ytp) ?ykd ?yku ?_; (case yk1 => k_asm); (case yk2 => k_asm); (case yk3 => k_asm); (case yk4 => k_asm); (case yk5 => k_asm); (case yk6 => exact rfl); (case ytp => assumption); (case ytu => (refine PartIn.mono ?_ (by assumption); intro p hp; repeat' (first | exact hp | refine List.Mem.tail _ ?_))); (case yts => (refine DatIn.mono ?_ (by assumption); intro p hp; repeat' (first | exact hp | refine List.Mem.tail _ ?_))); (case ykd => ktr_room); (case yku => ktr_units)); intro r' l' h' tk' F' N' hp'; obtain ⟨hr', hl'⟩ := hp'; subst hr'; subst hl'; (try dsimp only at N'); (try dsimp only); (try k_sweep); k_steps) | (show wpAny _ _ _ _ _ _; k_here; (with_reducible show wpAny _ _ (call (Value.ref 78) [Value.ref _, Value.ref _]) _ _ _); k_dflt (refine' tellsX_use ?yk1 ?yk2 ?yk3 ?yk4 ?yk5 ?yk6 (one_spec ?yu ?ys ?ym ?yn ?yp ?yq) ?ykd ?yku ?_; (case yk1 => k_asm); (case yk2 => k_asm); (case yk3 => k_asm); (case yk4 => k_asm); (case yk5 => k_asm); (case yk6 => exact rfl); (case yu => k_updF); (case ys => assumption); (case ym => k_mem); (case yn => k_ne); (case yp => exact Nat.succ_pos _); (case yq => exact Nat.le_of_ble_eq_true rfl); (case ykd => ktr_room); (case yku => ktr_units)); intro r' l' h' tk' F' N' hp'; obtain ⟨S', hr', hS', hl'⟩ := hp'; subst hl'; (try dsimp only at N'); (try dsimp only); (try k_sweep); (have hc9 := chars_of [97, 93, 94, 45, 37, 233] (by kernel_rfl!) hr'; obtain ⟨c', tc', hc', hcs'⟩ := hc9; clear hr'; subst hc'); k_steps)))
      · rename News _ _ _ _ => N7
        rename Fr _ _ _ _ => F7
        rename (_ < _ ∧ _ < _ ∧ Lp + 1 + 1 < _ ∧ Lp + 1 < _ ∧ src < _ ∧ rr < _ ∧ ll < _ ∧ AllLt _ R) => hB7
        simp only [List.push_toArray] at N7
        refine' mid_end _ F7 N7 ?a1 ?a2 ?a3 (hPk.row (z := Str.ofString "*") hS7 (by rw [ofs_star]; exact Good.any) (by rw [ofs_star]; decide) any_ok (DatIn.tuple (n := 0) (vs := [.int 0 _, .none, .none, .bool false]) (.head _) (.cons (.int _ _) (.cons .none (.cons .none (.cons (.bool _) .nil))))) hB7.2.2.2.2.2.2.1) ?a4 ?a5
        case a1 =>
          dsimp only [R1.led, List.cons_append]
          refine List.forall_mem_cons.mpr ⟨by k_memK, List.forall_mem_cons.mpr ⟨by k_memK, List.forall_mem_cons.mpr ⟨by k_memK, List.forall_mem_cons.mpr ⟨by k_memK, List.forall_mem_cons.mpr ⟨by k_memK, List.forall_mem_cons.mpr ⟨by k_memK, fun p hp => ?_⟩⟩⟩⟩⟩⟩
          have : p ∈ R := by rw [hR]; exact List.mem_append.mpr (.inl hp)
          repeat' (first | exact this | refine List.Mem.tail _ ?_)
        case a2 =>
          intro p hp
          have : p ∈ R := by rw [hR]; exact List.mem_append.mpr (.inr hp)
          repeat' (first | exact this | refine List.Mem.tail _ ?_)
        case a3 =>
          refine ownOff_of hoff ?_
          dsimp only [R1.led, List.cons_append]
          refine List.forall_mem_cons.mpr ⟨.inl (.head _), List.forall_mem_cons.mpr ⟨.inl (.tail _ (.head _)), List.forall_mem_cons.mpr ⟨.inl (.tail _ (.tail _ (.head _))), List.forall_mem_cons.mpr ⟨.inl (.tail _ (.tail _ (.tail _ (.head _)))), List.forall_mem_cons.mpr ⟨.inl (.tail _ (.tail _ (.tail _ (.tail _ (.head _))))), List.forall_mem_cons.mpr ⟨.inr fun p hp => ?_, fun q hq => .inl (List.mem_map.mpr ⟨q, .tail _ (.tail _ (.tail _ (.tail _ (.tail _ hq)))), rfl⟩)⟩⟩⟩⟩⟩⟩
          exact ne_ofLt hB7.2.2.2.2.2.2.2 p (by rw [hR]; exact List.mem_append.mpr (.inr hp))
        case a4 => dsimp only [R1.ps]; k_dflt kst_all
        case a5 =>
          intro z h1 h2 h3
          have h4 : z ≠ Str.ofString "pattern" := h2 (Str.ofString "pattern", _) (List.Mem.head _)
          refine (if_neg h4).trans ?_
          refine (if_neg (ne_stored h3 (.head _))).trans ?_
          refine (if_neg h1).trans ?_
          exact off_base (List.forall_mem_cons.mpr ⟨h4, List.forall_mem_nil _⟩) h3
      · rename News _ _ _ _ => N7
        rename Fr _ _ _ _ => F7
        rename (_ < _ ∧ _ < _ ∧ Lp + 1 + 1 < _ ∧ Lp + 1 < _ ∧ src < _ ∧ rr < _ ∧ ll < _ ∧ AllLt _ R) => hB7
        simp only [List.push_toArray] at N7
        refine' mid_end _ F7 N7 ?b1 ?b2 ?b3 (hPk.row (z := Str.ofString "?") hS7 (by rw [ofs_ask]; exact Good.one) (by rw [ofs_ask]; decide) one_ok (DatIn.tuple (n := 0) (vs := [.int 1 _, .none, .none, .bool false]) (.head _) (.cons (.int _ _) (.cons .none (.cons .none (.cons (.bool _) .nil))))) hB7.2.2.2.2.2.2.1) ?b4 ?b5
        case b1 =>
          dsimp only [R1.led, List.cons_append]
          refine List.forall_mem_cons.mpr ⟨by k_memK, List.forall_mem_cons.mpr ⟨by k_memK, List.forall_mem_cons.mpr ⟨by k_memK, List.forall_mem_cons.mpr ⟨by k_memK, List.forall_mem_cons.mpr ⟨by k_memK, List.forall_mem_cons.mpr ⟨by k_memK, fun p hp => ?_⟩⟩⟩⟩⟩⟩
          have : p ∈ R := by rw [hR]; exact List.mem_append.mpr (.inl hp)
          repeat' (first | exact this | refine List.Mem.tail _ ?_)
        case b2 =>
          intro p hp
          have : p ∈ R := by rw [hR]; exact List.mem_append.mpr (.inr hp)
          repeat' (first | exact this | refine List.Mem.tail _ ?_)
        case b3 =>
          refine ownOff_of hoff ?_
          dsimp only [R1.led, List.cons_append]
          refine List.forall_mem_cons.mpr ⟨.inl (.head _), List.forall_mem_cons.mpr ⟨.inl (.tail _ (.head _)), List.forall_mem_cons.mpr ⟨.inl (.tail _ (.tail _ (.head _))), List.forall_mem_cons.mpr ⟨.inl (.tail _ (.tail _ (.tail _ (.head _)))), List.forall_mem_cons.mpr ⟨.inl (.tail _ (.tail _ (.tail _ (.tail _ (.head _))))), List.forall_mem_cons.mpr ⟨.inr fun p hp => ?_, fun q hq => .inl (List.mem_map.mpr ⟨q, .tail _ (.tail _ (.tail _ (.tail _ (.tail _ hq)))), rfl⟩)⟩⟩⟩⟩⟩⟩
          exact ne_ofLt hB7.2.2.2.2.2.2.2 p (by rw [hR]; exact List.mem_append.mpr (.inr hp))
        case b4 => dsimp only [R1.ps]; k_dflt kst_all
        case b5 =>
          intro z h1 h2 h3
          have h4 : z ≠ Str.ofString "pattern" := h2 (Str.ofString "pattern", _) (List.Mem.head _)
          refine (if_neg h4).trans ?_
          refine (if_neg (ne_stored h3 (.head _))).trans ?_
          refine (if_neg h1).trans ?_
          exact off_base (List.forall_mem_cons.mpr ⟨h4, List.forall_mem_nil _⟩) h3
      · show wpAny _ _ _ _ _ _
        refine' tellsX_use ?k1 ?k2 ?k3 ?k4 ?k5 ?k6 (lot_spec ?tu ?ts) ?kd ?ku ?_
        case k1 => k_asm
        case k2 => k_asm
        case k3 => k_asm
        case k4 => k_asm
        case k5 => k_asm
        case k6 => exact rfl
        case tu => k_updF
        case ts => assumption
        case kd => ktr_room
        case ku => ktr_units
        intro r8 l8 h8 tk8 F8 N8 hp8
        obtain ⟨S8, new8, ⟨⟨q8, p8, x8, t8, t08, rl8, bt8, vs8, kk8, tl8, prs8, hr8, hn8, hD8, hok8⟩, hS8⟩, hfr8, hl8⟩ := hp8
        subst hr8
        subst hn8
        subst hl8
        have hA8 := allLt_of (fun z hz => hfr8 z hz _ (List.Mem.head _))
        have hB8 := allLt_of (fun z hz => hfr8 z hz _ (List.Mem.tail _ (List.Mem.head _)))
        have hC8 := allLt_of (fun z hz => hfr8 z hz _ (List.Mem.tail _ (List.Mem.tail _ (List.Mem.head _))))
        have hD9 : ∀ p ∈ tl8, (@LT.lt Nat _ ll p.1) ∧ (@LT.lt Nat _ rr p.1) ∧ (@LT.lt Nat _ src p.1) ∧ (@LT.lt Nat _ (Lp + 1) p.1) ∧ (@LT.lt Nat _ (Lp + 1 + 1) p.1) ∧ AllLt p.1 R := fun p hp => by
          have key := allLt_of (fun z hz => hfr8 z hz p (List.Mem.tail _ (List.Mem.tail _ (List.Mem.tail _ hp))))
          simp only [AllLt, and_true] at key
          exact ⟨key.2.2.2.2.1, key.2.2.2.1, key.2.2.1, key.2.1, key.1, key.2.2.2.2.2⟩
        simp only [AllLt, and_true] at hA8 hB8 hC8
        clear hfr8
        have hxl8 : x8.length ≤ 12 := by
          have := lot_len hok8
          rw [Array.length_toList] at this
          exact this
        simp only [List.cons_append] at N8
        have N9 := lot_led N8
        clear N8
        obtain ⟨R', hR'⟩ : ∃ R', R' = tl8 ++ R := ⟨_, rfl⟩
        rw [← hR'] at N9
        have hQ1 : ∀ p ∈ R', p.1 ≠ src := fun p hp => by
          rcases List.mem_append.mp (hR' ▸ hp) with hp | hp
          · have := (hD9 p hp).2.2.1; exact neN (by omega)
          · exact hR1 p hp
        have hQ2 : ∀ p ∈ R', p.1 ≠ rr := fun p hp => by
          rcases List.mem_append.mp (hR' ▸ hp) with hp | hp
          · have := (hD9 p hp).2.1; exact neN (by omega)
          · exact hR2 p hp
        have hQ3 : ∀ p ∈ R', p.1 ≠ ll := fun p hp => by
          rcases List.mem_append.mp (hR' ▸ hp) with hp | hp
          · have := (hD9 p hp).1; exact neN (by omega)
          · exact hR3 p hp
        have hQ4 : ∀ p ∈ R', p.1 ≠ Lp + 1 := fun p hp => by
          rcases List.mem_append.mp (hR' ▸ hp) with hp | hp
          · have := (hD9 p hp).2.2.2.1; exact neN (by omega)
          · exact hR4 p hp
        have hQ5 : ∀ p ∈ R', p.1 ≠ Lp + 1 + 1 := fun p hp => by
          rcases List.mem_append.mp (hR' ▸ hp) with hp | hp
          · have := (hD9 p hp).2.2.2.2.1; exact neN (by omega)
          · exact hR5 p hp
        try dsimp only
        (((try k_fold); k_steps); repeat' (first | (show wpAny _ _ _ _ _ _; k_here; (with_reducible show wpAny _ _ (call (Value.ref 118) [Value.ref _, Value.str _ _]) _ _ _); k_dflt (refine' tellsX_use ?yk1 ?yk2 ?yk3 ?yk4 ?yk5 ?yk6 (open_spec ?ytu ?yts ?ytp ?ytq) ?ykd ?yku ?_; (case yk1 => k_asm); (case yk2 => k_asm); (case yk3 => k_asm); (case yk4 => k_asm); (case yk5 => k_asm); (case yk6 => exact rfl); (case ytu => k_updF); (case yts => assumption); (case ytp => omega); (case ytq => assumption); (case ykd => ktr_room); (case yku => ktr_units)); intro r' l' h' tk' F' N' hp'; obtain ⟨S', ⟨hr', hS'⟩, hl'⟩ := hp'; subst hr'; subst hl'; (try dsimp only at N'); (try dsimp only); (try k_sweep); k_steps) | (show wpAny _ _ _ _ _ _; k_here; (with_reducible show wpAny _ _ (call (Value.ref 106) [Value.ref _]) _ _ _); k_dflt (refine' tellsX_use ?yk1 ?yk2 ?yk3 ?yk4 ?yk5 ?yk6 (lawrow_spec ?yu) ?ykd ?yku ?_; (case yk1 => k_asm); (case yk2 => k_asm); (case yk3 => k_asm); (case yk4 => k_asm); (case yk5 => k_asm); (case yk6 => exact rfl); (case yu => (refine PartIn.mono ?_ (by assumption); intro p hp; repeat' (first | exact hp | refine List.Mem.tail _ ?_))); (case ykd => ktr_room); (case yku => ktr_units)); intro r' l' h' tk' F' N' hp'; obtain ⟨q', vs', n', hr', hl', hq', hD'⟩ := hp'; subst hr'; subst hl'; (try dsimp only at N'); (try dsimp only); (try k_sweep); k_steps) | (show wpAny _ _ _ _ _ _; k_here; (with_reducible show wpAny _ _ (call (Value.ref 50) [Value.str _ _, Value.int _ _]) _ _ _); k_dflt (refine' tellsX_use ?yk1 ?yk2 ?yk3 ?yk4 ?yk5 ?yk6 (lotat_some ?ytu ?yts) ?ykd ?yku ?_; (case yk1 => k_asm); (case yk2 => k_asm); (case yk3 => k_asm); (case yk4 => k_asm); (case yk5 => k_asm); (case yk6 => exact rfl); (case yts => assumption); (case ytu => omega); (case ykd => ktr_room); (case yku => ktr_units)); intro r' l' h' tk' F' N' hp'; obtain ⟨q', xx', t', tl', hr', hl', hP'⟩ := hp'; subst hr'; subst hl'; (try dsimp only at N'); (try dsimp only); (try k_sweep); k_steps) | (show wpAny _ _ _ _ _ _; k_here; (with_reducible show wpAny _ _ (call (Value.ref 111) [_, _]) _ _ _); k_dflt (refine' tellsX_use ?yk1 ?yk2 ?yk3 ?yk4 ?yk5 ?yk6 (partright_spec ?ytu ?yts ?ytp) ?ykd ?yku ?_; (case yk1 => k_asm); (case yk2 => k_asm); (case yk3 => k_asm); (case yk4 => k_asm); (case yk5 => k_asm); (case yk6 => exact rfl); (case ytp => assumption); (case ytu => (refine PartIn.mono ?_ (by assumption); intro p hp; repeat' (first | exact hp | refine List.Mem.tail _ ?_))); (case yts => (refine DatIn.mono ?_ (by assumption); intro p hp; repeat' (first | exact hp | refine List.Mem.tail _ ?_))); (case ykd => ktr_room); (case yku => ktr_units)); intro r' l' h' tk' F' N' hp'; obtain ⟨hr', hl'⟩ := hp'; subst hr'; subst hl'; (try dsimp only at N'); (try dsimp only); (try k_sweep); k_steps) | (show wpAny _ _ _ _ _ _; k_here; (with_reducible show wpAny _ _ (call (Value.ref 78) [Value.ref _, Value.ref _]) _ _ _); k_dflt (refine' tellsX_use ?yk1 ?yk2 ?yk3 ?yk4 ?yk5 ?yk6 (one_spec ?yu ?ys ?ym ?yn ?yp ?yq) ?ykd ?yku ?_; (case yk1 => k_asm); (case yk2 => k_asm); (case yk3 => k_asm); (case yk4 => k_asm); (case yk5 => k_asm); (case yk6 => exact rfl); (case yu => k_updF); (case ys => assumption); (case ym => k_mem); (case yn => k_ne); (case yp => exact Nat.succ_pos _); (case yq => exact Nat.le_of_ble_eq_true rfl); (case ykd => ktr_room); (case yku => ktr_units)); intro r' l' h' tk' F' N' hp'; obtain ⟨S', hr', hS', hl'⟩ := hp'; subst hl'; (try dsimp only at N'); (try dsimp only); (try k_sweep); (have hc9 := chars_of [97, 93, 94, 45, 37, 233] (by kernel_rfl!) hr'; obtain ⟨c', tc', hc', hcs'⟩ := hc9; clear hr'; subst hc'); k_steps)))
        rename News _ _ _ _ => N7
        rename Fr _ _ _ _ => F7
        rename (_ < _ ∧ _ < _ ∧ _ < _ ∧ Lp + 1 + 1 < _ ∧ Lp + 1 < _ ∧ src < _ ∧ rr < _ ∧ ll < _ ∧ AllLt _ R') => hB7
        simp only [List.push_toArray] at N7
        refine' mid_end _ F7 N7 ?g1 ?g2 ?g3 (hPk.lot hS8 hok8 rfl rfl hD8 hB7.2.2.2.2.2.2.2.1 hB8.2.2.2.2.1 hC8.2.2.2.2.1 (fun q hq => (hD9 q hq).1)) ?g4 ?g5
        case g1 =>
          dsimp only [R1.led, List.cons_append]
          refine List.forall_mem_cons.mpr ⟨by k_memK, List.forall_mem_cons.mpr ⟨by k_memK, List.forall_mem_cons.mpr ⟨by k_memK, List.forall_mem_cons.mpr ⟨by k_memK, List.forall_mem_cons.mpr ⟨by k_memK, List.forall_mem_cons.mpr ⟨by k_memK, List.forall_mem_cons.mpr ⟨by k_memK, List.forall_mem_cons.mpr ⟨by k_memK, fun p hp => ?_⟩⟩⟩⟩⟩⟩⟩⟩
          have : p ∈ R' := by
            rw [hR', hR]
            rw [List.append_assoc] at hp
            rcases List.mem_append.mp hp with hp | hp
            · exact List.mem_append.mpr (.inl hp)
            · exact List.mem_append.mpr (.inr (List.mem_append.mpr (.inl hp)))
          repeat' (first | exact this | refine List.Mem.tail _ ?_)
        case g2 =>
          intro p hp
          have : p ∈ R' := by rw [hR', hR]; exact List.mem_append.mpr (.inr (List.mem_append.mpr (.inr hp)))
          repeat' (first | exact this | refine List.Mem.tail _ ?_)
        case g3 =>
          have hown : ∀ p ∈ own, p ∈ R := fun p hp => by rw [hR]; exact List.mem_append.mpr (.inr hp)
          refine ownOff_of hoff ?_
          dsimp only [R1.led, List.cons_append]
          refine List.forall_mem_cons.mpr ⟨.inl (.head _), List.forall_mem_cons.mpr ⟨.inl (.tail _ (.head _)), List.forall_mem_cons.mpr ⟨.inl (.tail _ (.tail _ (.head _))), List.forall_mem_cons.mpr ⟨.inl (.tail _ (.tail _ (.tail _ (.head _)))), List.forall_mem_cons.mpr ⟨.inl (.tail _ (.tail _ (.tail _ (.tail _ (.head _))))), List.forall_mem_cons.mpr ⟨.inr fun p hp => ?_, List.forall_mem_cons.mpr ⟨.inr fun p hp => ?_, List.forall_mem_cons.mpr ⟨.inr fun p hp => ?_, fun q hq => ?_⟩⟩⟩⟩⟩⟩⟩⟩
          · exact ne_ofLt hB7.2.2.2.2.2.2.2.2 p (by rw [hR']; exact List.mem_append.mpr (.inr (hown p hp)))
          · exact ne_ofLt hB8.2.2.2.2.2 p (hown p hp)
          · exact ne_ofLt hC8.2.2.2.2.2 p (hown p hp)
          · rw [List.append_assoc] at hq
            rcases List.mem_append.mp hq with hq | hq
            · exact .inr fun p hp => ne_ofLt (hD9 q hq).2.2.2.2.2 p (hown p hp)
            · exact .inl (List.mem_map.mpr ⟨q, .tail _ (.tail _ (.tail _ (.tail _ (.tail _ hq)))), rfl⟩)
        case g4 => dsimp only [R1.ps]; k_dflt kst_all
        case g5 =>
          intro z h1 h2 h3
          have h4 : z ≠ Str.ofString "pattern" := h2 (Str.ofString "pattern", _) (List.Mem.head _)
          refine (if_neg h4).trans ?_
          refine (if_neg (ne_stored h3 (.tail _ (.tail _ (.head _))))).trans ?_
          refine (if_neg (ne_stored h3 (.tail _ (.head _)))).trans ?_
          refine (if_neg (ne_stored h3 (.head _))).trans ?_
          refine (if_neg h1).trans ?_
          exact off_base (List.forall_mem_cons.mpr ⟨h4, List.forall_mem_nil _⟩) h3
      · rename News _ _ _ _ => N7
        rename Fr _ _ _ _ => F7
        rename SrcIs _ => hS8
        rename _ ∈ [97, 93, 94, 45, 37, 233] => hc8
        rename (_ < _ ∧ Lp + 1 + 1 < _ ∧ Lp + 1 < _ ∧ src < _ ∧ rr < _ ∧ ll < _ ∧ AllLt _ R) => hB7
        simp only [List.push_toArray] at N7
        refine' mid_end _ F7 N7 ?d1 ?d2 ?d3 (hPk.row (z := ⟨#[_]⟩) hS8 (sign_good hc8).1 (by show 1 ≤ 20; decide) (sign_good hc8).2 (DatIn.tuple (n := 0) (vs := [.int 2 _, .str ⟨#[_]⟩ _, .none, .bool false]) (.head _) (.cons (.int _ _) (.cons (.str _ _) (.cons .none (.cons (.bool _) .nil))))) hB7.2.2.2.2.2.1) ?d4 ?d5
        case d1 =>
          dsimp only [R1.led, List.cons_append]
          refine List.forall_mem_cons.mpr ⟨by k_memK, List.forall_mem_cons.mpr ⟨by k_memK, List.forall_mem_cons.mpr ⟨by k_memK, List.forall_mem_cons.mpr ⟨by k_memK, List.forall_mem_cons.mpr ⟨by k_memK, List.forall_mem_cons.mpr ⟨by k_memK, fun p hp => ?_⟩⟩⟩⟩⟩⟩
          have : p ∈ R := by rw [hR]; exact List.mem_append.mpr (.inl hp)
          repeat' (first | exact this | refine List.Mem.tail _ ?_)
        case d2 =>
          intro p hp
          have : p ∈ R := by rw [hR]; exact List.mem_append.mpr (.inr hp)
          repeat' (first | exact this | refine List.Mem.tail _ ?_)
        case d3 =>
          refine ownOff_of hoff ?_
          dsimp only [R1.led, List.cons_append]
          refine List.forall_mem_cons.mpr ⟨.inl (.head _), List.forall_mem_cons.mpr ⟨.inl (.tail _ (.head _)), List.forall_mem_cons.mpr ⟨.inl (.tail _ (.tail _ (.head _))), List.forall_mem_cons.mpr ⟨.inl (.tail _ (.tail _ (.tail _ (.head _)))), List.forall_mem_cons.mpr ⟨.inl (.tail _ (.tail _ (.tail _ (.tail _ (.head _))))), List.forall_mem_cons.mpr ⟨.inr fun p hp => ?_, fun q hq => .inl (List.mem_map.mpr ⟨q, .tail _ (.tail _ (.tail _ (.tail _ (.tail _ hq)))), rfl⟩)⟩⟩⟩⟩⟩⟩
          exact ne_ofLt hB7.2.2.2.2.2.2 p (by rw [hR]; exact List.mem_append.mpr (.inr hp))
        case d4 => dsimp only [R1.ps]; k_dflt kst_all
        case d5 =>
          intro z h1 h2 h3
          have h4 : z ≠ Str.ofString "pattern" := h2 (Str.ofString "pattern", _) (List.Mem.head _)
          refine (if_neg h4).trans ?_
          refine (if_neg (ne_stored h3 (.tail _ (.tail _ (.tail _ (.head _)))))).trans ?_
          refine (if_neg (ne_stored h3 (.head _))).trans ?_
          refine (if_neg h1).trans ?_
          exact off_base (List.forall_mem_cons.mpr ⟨h4, List.forall_mem_nil _⟩) h3
    · intro c u h3 tk3 hP F3 N3
      obtain ⟨S3, x3, t3, vr3, kr3, vl3, kl3, tl3, rows3⟩ := c
      obtain ⟨hS3, hx3, hD3, hok3, hr3, hg3, hv3, hl3, htl3⟩ := hP
      dsimp only [R1.led, R1.ps] at *
      have hx4 : x3.length ≤ 100 := by omega
      have hr5 : rows3.length ≤ 5 := by omega
      have hl5 : vl3.length ≤ 5 := by omega
      have hgp := hg3.parse
      clear hS7 hd0 hd1
      (((try k_fold); k_steps); repeat' (first | (show wpAny _ _ _ _ _ _; k_here; (with_reducible show wpAny _ _ (call (Value.ref 118) [Value.ref _, Value.str _ _]) _ _ _); k_dflt (refine' tellsX_use ?yk1 ?yk2 ?yk3 ?yk4 ?yk5 ?yk6 (open_spec ?ytu ?yts ?ytp ?ytq) ?ykd ?yku ?_; (case yk1 => k_asm); (case yk2 => k_asm); (case yk3 => k_asm); (case yk4 => k_asm); (case yk5 => k_asm); (case yk6 => exact rfl); (case ytu => k_updF); (case yts => assumption); (case ytp => omega); (case ytq => assumption); (case ykd => ktr_room); (case yku => ktr_units)); intro r' l' h' tk' F' N' hp'; obtain ⟨S', ⟨hr', hS'⟩, hl'⟩ := hp'; subst hr'; subst hl'; (try dsimp only at N'); (try dsimp only); (try k_sweep); k_steps) | (show wpAny _ _ _ _ _ _; k_here; (with_reducible show wpAny _ _ (call (Value.ref 106) [Value.ref _]) _ _ _); k_dflt (refine' tellsX_use ?yk1 ?yk2 ?yk3 ?yk4 ?yk5 ?yk6 (lawrow_spec ?yu) ?ykd ?yku ?_; (case yk1 => k_asm); (case yk2 => k_asm); (case yk3 => k_asm); (case yk4 => k_asm); (case yk5 => k_asm); (case yk6 => exact rfl); (case yu => (refine PartIn.mono ?_ (by assumption); intro p hp; repeat' (first | exact hp | refine List.Mem.tail _ ?_))); (case ykd => ktr_room); (case yku => ktr_units)); intro r' l' h' tk' F' N' hp'; obtain ⟨q', vs', n', hr', hl', hq', hD'⟩ := hp'; subst hr'; subst hl'; (try dsimp only at N'); (try dsimp only); (try k_sweep); k_steps) | (show wpAny _ _ _ _ _ _; k_here; (with_reducible show wpAny _ _ (call (Value.ref 50) [Value.str _ _, Value.int _ _]) _ _ _); k_dflt (refine' tellsX_use ?yk1 ?yk2 ?yk3 ?yk4 ?yk5 ?yk6 (lotat_some ?ytu ?yts) ?ykd ?yku ?_; (case yk1 => k_asm); (case yk2 => k_asm); (case yk3 => k_asm); (case yk4 => k_asm); (case yk5 => k_asm); (case yk6 => exact rfl); (case yts => assumption); (case ytu => omega); (case ykd => ktr_room); (case yku => ktr_units)); intro r' l' h' tk' F' N' hp'; obtain ⟨q', xx', t', tl', hr', hl', hP'⟩ := hp'; subst hr'; subst hl'; (try dsimp only at N'); (try dsimp only); (try k_sweep); k_steps) | (show wpAny _ _ _ _ _ _; k_here; (with_reducible show wpAny _ _ (call (Value.ref 111) [_, _]) _ _ _); k_dflt (refine' tellsX_use ?yk1 ?yk2 ?yk3 ?yk4 ?yk5 ?yk6 (partright_spec ?ytu ?yts ?ytp) ?ykd ?yku ?_; (case yk1 => k_asm); (case yk2 => k_asm); (case yk3 => k_asm); (case yk4 => k_asm); (case yk5 => k_asm); (case yk6 => exact rfl); (case ytp => assumption); (case ytu => (refine PartIn.mono ?_ (by assumption); intro p hp; repeat' (first | exact hp | refine List.Mem.tail _ ?_))); (case yts => (refine DatIn.mono ?_ (by assumption); intro p hp; repeat' (first | exact hp | refine List.Mem.tail _ ?_))); (case ykd => ktr_room); (case yku => ktr_units)); intro r' l' h' tk' F' N' hp'; obtain ⟨hr', hl'⟩ := hp'; subst hr'; subst hl'; (try dsimp only at N'); (try dsimp only); (try k_sweep); k_steps) | (show wpAny _ _ _ _ _ _; k_here; (with_reducible show wpAny _ _ (call (Value.ref 78) [Value.ref _, Value.ref _]) _ _ _); k_dflt (refine' tellsX_use ?yk1 ?yk2 ?yk3 ?yk4 ?yk5 ?yk6 (one_spec ?yu ?ys ?ym ?yn ?yp ?yq) ?ykd ?yku ?_; (case yk1 => k_asm); (case yk2 => k_asm); (case yk3 => k_asm); (case yk4 => k_asm); (case yk5 => k_asm); (case yk6 => exact rfl); (case yu => k_updF); (case ys => assumption); (case ym => k_mem); (case yn => k_ne); (case yp => exact Nat.succ_pos _); (case yq => exact Nat.le_of_ble_eq_true rfl); (case ykd => ktr_room); (case yku => ktr_units)); intro r' l' h' tk' F' N' hp'; obtain ⟨S', hr', hS', hl'⟩ := hp'; subst hl'; (try dsimp only at N'); (try dsimp only); (try k_sweep); (have hc9 := chars_of [97, 93, 94, 45, 37, 233] (by kernel_rfl!) hr'; obtain ⟨c', tc', hc', hcs'⟩ := hc9; clear hr'; subst hc'); k_steps)))
      show wpAny _ _ _ _ _ _
      refine' tellsX_use ?k1 ?k2 ?k3 ?k4 ?k5 ?k6 (glob_some ?tu ?ts) ?kd ?ku ?_
      case k1 => k_asm
      case k2 => k_asm
      case k3 => k_asm
      case k4 => k_asm
      case k5 => k_asm
      case k6 => exact rfl
      case tu => omega
      case ts => assumption
      case kd => ktr_room
      case ku => ktr_units
      intro r8 l8 h8 tk8 F8 N8 hp8
      obtain ⟨pl, vp, kp, tlp, hr8, hpp, hl8, hf1, hf2⟩ := hp8
      subst hr8
      subst hl8
      have hA8 := allLt_of hf1
      have hD9 : ∀ p ∈ tlp, (@LT.lt Nat _ ll p.1) ∧ (@LT.lt Nat _ rr p.1) ∧ (@LT.lt Nat _ src p.1) ∧ (@LT.lt Nat _ (Lp + 1) p.1) ∧ (@LT.lt Nat _ (Lp + 1 + 1) p.1) := fun p hp => by
        have key := allLt_of (fun z hz => hf2 z hz p hp)
        simp only [AllLt, and_true] at key
        exact ⟨key.2.2.2.2.1, key.2.2.2.1, key.2.2.1, key.2.1, key.1⟩
      simp only [AllLt, and_true] at hA8
      clear hf1 hf2
      have N9 := parts_led N8
      clear N8
      obtain ⟨R, hR⟩ : ∃ R, R = tlp ++ (tl3 ++ rest) := ⟨_, rfl⟩
      rw [← hR] at N9
      have hR0 : ∀ p ∈ R, p.1 ≠ src ∧ p.1 ≠ rr ∧ p.1 ≠ ll ∧ p.1 ≠ Lp + 1 ∧ p.1 ≠ Lp + 1 + 1 := by
        intro p hp
        rw [hR] at hp
        have q1 := hA.1
        have q2 := hB.1
        have q3 := hB.2.1
        have q4 := hB.2.2.1
        rcases List.mem_append.mp hp with hp | hp
        · have := hD9 p hp
          exact ⟨neN (by omega), neN (by omega), neN (by omega), neN (by omega), neN (by omega)⟩
        · rcases List.mem_append.mp hp with hp | hp
          · have := htl3 p hp
            exact ⟨neN (by omega), neN (by omega), neN (by omega), neN (by omega), neN (by omega)⟩
          · exact ⟨hne p hp, ne_ofLt hA.2.2.2.2 p hp, ne_ofLt hB.2.2.2 p hp, r1 p hp, r2 p hp⟩
      have hR1 : ∀ p ∈ R, p.1 ≠ src := fun p hp => (hR0 p hp).1
      have hR2 : ∀ p ∈ R, p.1 ≠ rr := fun p hp => (hR0 p hp).2.1
      have hR3 : ∀ p ∈ R, p.1 ≠ ll := fun p hp => (hR0 p hp).2.2.1
      have hR4 : ∀ p ∈ R, p.1 ≠ Lp + 1 := fun p hp => (hR0 p hp).2.2.2.1
      have hR5 : ∀ p ∈ R, p.1 ≠ Lp + 1 + 1 := fun p hp => (hR0 p hp).2.2.2.2
      clear hR0
      have hppR : PartsIn w R vp rows3 := hpp.mono fun p hp => by rw [hR]; exact List.mem_append.mpr (.inl hp)
      have hDR : DatAll R vr3 (rows3.map rowDat) := hD3.mono fun p hp => by rw [hR]; exact List.mem_append.mpr (.inr (List.mem_append.mpr (.inl hp)))
      have hpl := hpp.length
      have hvr : vr3.length = rows3.length := by
        have := hD3.length
        rw [List.length_map] at this
        exact this
      have hp5 : vp.length ≤ 5 := by omega
      have hv5 : vr3.length ≤ 5 := by omega
      try dsimp only
      (((try k_fold); k_steps); repeat' (first | (show wpAny _ _ _ _ _ _; k_here; (with_reducible show wpAny _ _ (call (Value.ref 118) [Value.ref _, Value.str _ _]) _ _ _); k_dflt (refine' tellsX_use ?yk1 ?yk2 ?yk3 ?yk4 ?yk5 ?yk6 (open_spec ?ytu ?yts ?ytp ?ytq) ?ykd ?yku ?_; (case yk1 => k_asm); (case yk2 => k_asm); (case yk3 => k_asm); (case yk4 => k_asm); (case yk5 => k_asm); (case yk6 => exact rfl); (case ytu => k_updF); (case yts => assumption); (case ytp => omega); (case ytq => assumption); (case ykd => ktr_room); (case yku => ktr_units)); intro r' l' h' tk' F' N' hp'; obtain ⟨S', ⟨hr', hS'⟩, hl'⟩ := hp'; subst hr'; subst hl'; (try dsimp only at N'); (try dsimp only); (try k_sweep); k_steps) | (show wpAny _ _ _ _ _ _; k_here; (with_reducible show wpAny _ _ (call (Value.ref 106) [Value.ref _]) _ _ _); k_dflt (refine' tellsX_use ?yk1 ?yk2 ?yk3 ?yk4 ?yk5 ?yk6 (lawrow_spec ?yu) ?ykd ?yku ?_; (case yk1 => k_asm); (case yk2 => k_asm); (case yk3 => k_asm); (case yk4 => k_asm); (case yk5 => k_asm); (case yk6 => exact rfl); (case yu => (refine PartIn.mono ?_ (by assumption); intro p hp; repeat' (first | exact hp | refine List.Mem.tail _ ?_))); (case ykd => ktr_room); (case yku => ktr_units)); intro r' l' h' tk' F' N' hp'; obtain ⟨q', vs', n', hr', hl', hq', hD'⟩ := hp'; subst hr'; subst hl'; (try dsimp only at N'); (try dsimp only); (try k_sweep); k_steps) | (show wpAny _ _ _ _ _ _; k_here; (with_reducible show wpAny _ _ (call (Value.ref 50) [Value.str _ _, Value.int _ _]) _ _ _); k_dflt (refine' tellsX_use ?yk1 ?yk2 ?yk3 ?yk4 ?yk5 ?yk6 (lotat_some ?ytu ?yts) ?ykd ?yku ?_; (case yk1 => k_asm); (case yk2 => k_asm); (case yk3 => k_asm); (case yk4 => k_asm); (case yk5 => k_asm); (case yk6 => exact rfl); (case yts => assumption); (case ytu => omega); (case ykd => ktr_room); (case yku => ktr_units)); intro r' l' h' tk' F' N' hp'; obtain ⟨q', xx', t', tl', hr', hl', hP'⟩ := hp'; subst hr'; subst hl'; (try dsimp only at N'); (try dsimp only); (try k_sweep); k_steps) | (show wpAny _ _ _ _ _ _; k_here; (with_reducible show wpAny _ _ (call (Value.ref 111) [_, _]) _ _ _); k_dflt (refine' tellsX_use ?yk1 ?yk2 ?yk3 ?yk4 ?yk5 ?yk6 (partright_spec ?ytu ?yts ?ytp) ?ykd ?yku ?_; (case yk1 => k_asm); (case yk2 => k_asm); (case yk3 => k_asm); (case yk4 => k_asm); (case yk5 => k_asm); (case yk6 => exact rfl); (case ytp => assumption); (case ytu => (refine PartIn.mono ?_ (by assumption); intro p hp; repeat' (first | exact hp | refine List.Mem.tail _ ?_))); (case yts => (refine DatIn.mono ?_ (by assumption); intro p hp; repeat' (first | exact hp | refine List.Mem.tail _ ?_))); (case ykd => ktr_room); (case yku => ktr_units)); intro r' l' h' tk' F' N' hp'; obtain ⟨hr', hl'⟩ := hp'; subst hr'; subst hl'; (try dsimp only at N'); (try dsimp only); (try k_sweep); k_steps) | (show wpAny _ _ _ _ _ _; k_here; (with_reducible show wpAny _ _ (call (Value.ref 78) [Value.ref _, Value.ref _]) _ _ _); k_dflt (refine' tellsX_use ?yk1 ?yk2 ?yk3 ?yk4 ?yk5 ?yk6 (one_spec ?yu ?ys ?ym ?yn ?yp ?yq) ?ykd ?yku ?_; (case yk1 => k_asm); (case yk2 => k_asm); (case yk3 => k_asm); (case yk4 => k_asm); (case yk5 => k_asm); (case yk6 => exact rfl); (case yu => k_updF); (case ys => assumption); (case ym => k_mem); (case yn => k_ne); (case yp => exact Nat.succ_pos _); (case yq => exact Nat.le_of_ble_eq_true rfl); (case ykd => ktr_room); (case yku => ktr_units)); intro r' l' h' tk' F' N' hp'; obtain ⟨S', hr', hS', hl'⟩ := hp'; subst hl'; (try dsimp only at N'); (try dsimp only); (try k_sweep); (have hc9 := chars_of [97, 93, 94, 45, 37, 233] (by kernel_rfl!) hr'; obtain ⟨c', tc', hc', hcs'⟩ := hc9; clear hr'; subst hc'); k_steps)))
      · exfalso; omega
      · show LCt.CompSrcT _ _ _ _ _ _ _ _ _ _ _ _ _ _ _
        refine LCt.CompSrcT.range (by rfl) (by k_asm) (by k_asm) (by assumption) (small_one (by decide) (by decide) (by omega) (by omega)) (rangeSize_nat _ _) (Nat.le_trans (show _ ≤ 5 by omega) (Nat.le_of_ble_eq_true rfl)) ?_
        intro g7
        refine rest_none ?hS ?hfin ?step _ _ (Nat.zero_add _)
        case hS => trivial
        case step =>
          intro i v I oI C oC D m₂ h tk Qb E' hi hv hC hx F' N' hoff hne hend
          obtain ⟨tv, rfl⟩ := hv
          have hi4 : i < rows3.length := by omega
          have hi5 : i < 1000 := by omega
          obtain ⟨r1, v1, u1, hv1, hu1, hP1, hD1, hO1⟩ := row_at hi4 hppR hDR hok3
          (((try k_fold); k_steps); repeat' (first | (show wpAny _ _ _ _ _ _; k_here; (with_reducible show wpAny _ _ (call (Value.ref 118) [Value.ref _, Value.str _ _]) _ _ _); k_dflt (refine' tellsX_use ?yk1 ?yk2 ?yk3 ?yk4 ?yk5 ?yk6 (open_spec ?ytu ?yts ?ytp ?ytq) ?ykd ?yku ?_; (case yk1 => k_asm); (case yk2 => k_asm); (case yk3 => k_asm); (case yk4 => k_asm); (case yk5 => k_asm); (case yk6 => exact rfl); (case ytu => k_updF); (case yts => assumption); (case ytp => omega); (case ytq => assumption); (case ykd => ktr_room); (case yku => ktr_units)); intro r' l' h' tk' F' N' hp'; obtain ⟨S', ⟨hr', hS'⟩, hl'⟩ := hp'; subst hr'; subst hl'; (try dsimp only at N'); (try dsimp only); (try k_sweep); k_steps) | (show wpAny _ _ _ _ _ _; k_here; (with_reducible show wpAny _ _ (call (Value.ref 106) [Value.ref _]) _ _ _); k_dflt (refine' tellsX_use ?yk1 ?yk2 ?yk3 ?yk4 ?yk5 ?yk6 (lawrow_spec ?yu) ?ykd ?yku ?_; (case yk1 => k_asm); (case yk2 => k_asm); (case yk3 => k_asm); (case yk4 => k_asm); (case yk5 => k_asm); (case yk6 => exact rfl); (case yu => (refine PartIn.mono ?_ (by assumption); intro p hp; repeat' (first | exact hp | refine List.Mem.tail _ ?_))); (case ykd => ktr_room); (case yku => ktr_units)); intro r' l' h' tk' F' N' hp'; obtain ⟨q', vs', n', hr', hl', hq', hD'⟩ := hp'; subst hr'; subst hl'; (try dsimp only at N'); (try dsimp only); (try k_sweep); k_steps) | (show wpAny _ _ _ _ _ _; k_here; (with_reducible show wpAny _ _ (call (Value.ref 50) [Value.str _ _, Value.int _ _]) _ _ _); k_dflt (refine' tellsX_use ?yk1 ?yk2 ?yk3 ?yk4 ?yk5 ?yk6 (lotat_some ?ytu ?yts) ?ykd ?yku ?_; (case yk1 => k_asm); (case yk2 => k_asm); (case yk3 => k_asm); (case yk4 => k_asm); (case yk5 => k_asm); (case yk6 => exact rfl); (case yts => assumption); (case ytu => omega); (case ykd => ktr_room); (case yku => ktr_units)); intro r' l' h' tk' F' N' hp'; obtain ⟨q', xx', t', tl', hr', hl', hP'⟩ := hp'; subst hr'; subst hl'; (try dsimp only at N'); (try dsimp only); (try k_sweep); k_steps) | (show wpAny _ _ _ _ _ _; k_here; (with_reducible show wpAny _ _ (call (Value.ref 111) [_, _]) _ _ _); k_dflt (refine' tellsX_use ?yk1 ?yk2 ?yk3 ?yk4 ?yk5 ?yk6 (partright_spec ?ytu ?yts ?ytp) ?ykd ?yku ?_; (case yk1 => k_asm); (case yk2 => k_asm); (case yk3 => k_asm); (case yk4 => k_asm); (case yk5 => k_asm); (case yk6 => exact rfl); (case ytp => assumption); (case ytu => (refine PartIn.mono ?_ (by assumption); intro p hp; repeat' (first | exact hp | refine List.Mem.tail _ ?_))); (case yts => (refine DatIn.mono ?_ (by assumption); intro p hp; repeat' (first | exact hp | refine List.Mem.tail _ ?_))); (case ykd => ktr_room); (case yku => ktr_units)); intro r' l' h' tk' F' N' hp'; obtain ⟨hr', hl'⟩ := hp'; subst hr'; subst hl'; (try dsimp only at N'); (try dsimp only); (try k_sweep); k_steps) | (show wpAny _ _ _ _ _ _; k_here; (with_reducible show wpAny _ _ (call (Value.ref 78) [Value.ref _, Value.ref _]) _ _ _); k_dflt (refine' tellsX_use ?yk1 ?yk2 ?yk3 ?yk4 ?yk5 ?yk6 (one_spec ?yu ?ys ?ym ?yn ?yp ?yq) ?ykd ?yku ?_; (case yk1 => k_asm); (case yk2 => k_asm); (case yk3 => k_asm); (case yk4 => k_asm); (case yk5 => k_asm); (case yk6 => exact rfl); (case yu => k_updF); (case ys => assumption); (case ym => k_mem); (case yn => k_ne); (case yp => exact Nat.succ_pos _); (case yq => exact Nat.le_of_ble_eq_true rfl); (case ykd => ktr_room); (case yku => ktr_units)); intro r' l' h' tk' F' N' hp'; obtain ⟨S', hr', hS', hl'⟩ := hp'; subst hl'; (try dsimp only at N'); (try dsimp only); (try k_sweep); (have hc9 := chars_of [97, 93, 94, 45, 37, 233] (by kernel_rfl!) hr'; obtain ⟨c', tc', hc', hcs'⟩ := hc9; clear hr'; subst hc'); k_steps)))
          exact hend _ _ (by k_asm) (by k_asm)
        case hfin =>
          (((try k_fold); k_steps); repeat' (first | (show wpAny _ _ _ _ _ _; k_here; (with_reducible show wpAny _ _ (call (Value.ref 118) [Value.ref _, Value.str _ _]) _ _ _); k_dflt (refine' tellsX_use ?yk1 ?yk2 ?yk3 ?yk4 ?yk5 ?yk6 (open_spec ?ytu ?yts ?ytp ?ytq) ?ykd ?yku ?_; (case yk1 => k_asm); (case yk2 => k_asm); (case yk3 => k_asm); (case yk4 => k_asm); (case yk5 => k_asm); (case yk6 => exact rfl); (case ytu => k_updF); (case yts => assumption); (case ytp => omega); (case ytq => assumption); (case ykd => ktr_room); (case yku => ktr_units)); intro r' l' h' tk' F' N' hp'; obtain ⟨S', ⟨hr', hS'⟩, hl'⟩ := hp'; subst hr'; subst hl'; (try dsimp only at N'); (try dsimp only); (try k_sweep); k_steps) | (show wpAny _ _ _ _ _ _; k_here; (with_reducible show wpAny _ _ (call (Value.ref 106) [Value.ref _]) _ _ _); k_dflt (refine' tellsX_use ?yk1 ?yk2 ?yk3 ?yk4 ?yk5 ?yk6 (lawrow_spec ?yu) ?ykd ?yku ?_; (case yk1 => k_asm); (case yk2 => k_asm); (case yk3 => k_asm); (case yk4 => k_asm); (case yk5 => k_asm); (case yk6 => exact rfl); (case yu => (refine PartIn.mono ?_ (by assumption); intro p hp; repeat' (first | exact hp | refine List.Mem.tail _ ?_))); (case ykd => ktr_room); (case yku => ktr_units)); intro r' l' h' tk' F' N' hp'; obtain ⟨q', vs', n', hr', hl', hq', hD'⟩ := hp'; subst hr'; subst hl'; (try dsimp only at N'); (try dsimp only); (try k_sweep); k_steps) | (show wpAny _ _ _ _ _ _; k_here; (with_reducible show wpAny _ _ (call (Value.ref 50) [Value.str _ _, Value.int _ _]) _ _ _); k_dflt (refine' tellsX_use ?yk1 ?yk2 ?yk3 ?yk4 ?yk5 ?yk6 (lotat_some ?ytu ?yts) ?ykd ?yku ?_; (case yk1 => k_asm); (case yk2 => k_asm); (case yk3 => k_asm); (case yk4 => k_asm); (case yk5 => k_asm); (case yk6 => exact rfl); (case yts => assumption); (case ytu => omega); (case ykd => ktr_room); (case yku => ktr_units)); intro r' l' h' tk' F' N' hp'; obtain ⟨q', xx', t', tl', hr', hl', hP'⟩ := hp'; subst hr'; subst hl'; (try dsimp only at N'); (try dsimp only); (try k_sweep); k_steps) | (show wpAny _ _ _ _ _ _; k_here; (with_reducible show wpAny _ _ (call (Value.ref 111) [_, _]) _ _ _); k_dflt (refine' tellsX_use ?yk1 ?yk2 ?yk3 ?yk4 ?yk5 ?yk6 (partright_spec ?ytu ?yts ?ytp) ?ykd ?yku ?_; (case yk1 => k_asm); (case yk2 => k_asm); (case yk3 => k_asm); (case yk4 => k_asm); (case yk5 => k_asm); (case yk6 => exact rfl); (case ytp => assumption); (case ytu => (refine PartIn.mono ?_ (by assumption); intro p hp; repeat' (first | exact hp | refine List.Mem.tail _ ?_))); (case yts => (refine DatIn.mono ?_ (by assumption); intro p hp; repeat' (first | exact hp | refine List.Mem.tail _ ?_))); (case ykd => ktr_room); (case yku => ktr_units)); intro r' l' h' tk' F' N' hp'; obtain ⟨hr', hl'⟩ := hp'; subst hr'; subst hl'; (try dsimp only at N'); (try dsimp only); (try k_sweep); k_steps) | (show wpAny _ _ _ _ _ _; k_here; (with_reducible show wpAny _ _ (call (Value.ref 78) [Value.ref _, Value.ref _]) _ _ _); k_dflt (refine' tellsX_use ?yk1 ?yk2 ?yk3 ?yk4 ?yk5 ?yk6 (one_spec ?yu ?ys ?ym ?yn ?yp ?yq) ?ykd ?yku ?_; (case yk1 => k_asm); (case yk2 => k_asm); (case yk3 => k_asm); (case yk4 => k_asm); (case yk5 => k_asm); (case yk6 => exact rfl); (case yu => k_updF); (case ys => assumption); (case ym => k_mem); (case yn => k_ne); (case yp => exact Nat.succ_pos _); (case yq => exact Nat.le_of_ble_eq_true rfl); (case ykd => ktr_room); (case yku => ktr_units)); intro r' l' h' tk' F' N' hp'; obtain ⟨S', hr', hS', hl'⟩ := hp'; subst hl'; (try dsimp only at N'); (try dsimp only); (try k_sweep); (have hc9 := chars_of [97, 93, 94, 45, 37, 233] (by kernel_rfl!) hr'; obtain ⟨c', tc', hc', hcs'⟩ := hc9; clear hr'; subst hc'); k_steps)))
          show wpAny _ _ _ _ _ _
          rename News _ _ _ _ => N7
          have hV : ∀ v ∈ vl3, LotV R x3.cps.toList v := fun v hv => by
            have := (hv3 v hv).more (tl' := R) (z := []) fun p hp => by rw [hR]; exact List.mem_append.mpr (.inr (List.mem_append.mpr (.inl hp)))
            rwa [List.append_nil] at this
          refine list_inv (σ := Unit) (fun _ => (src, S3) :: (ll, listOf vl3.toArray kl3) :: R) (fun _ => []) (fun _ _ => True) [Str.ofString "at", Str.ofString "row", Str.ofString "behind", Str.ofString "part", Str.ofString "place"] () rfl (fun _ => .tail _ (.head _)) (by k_asm) N7 ?_ (fun _ h => nomatch h) trivial ?_ ?_
          · refine List.forall_mem_cons.mpr ⟨by k_memK, List.forall_mem_cons.mpr ⟨by k_memK, fun p hp => ?_⟩⟩
            repeat' (first | exact hp | refine List.Mem.tail _ ?_)
          · intro i v c u h2 tk2 own hv hc hoff F2 N2
            obtain ⟨q, a, ta, ur, b, tb, prs, neg, rfl, hq, hDu, hok7, hLH⟩ := hV v (List.mem_of_getElem? hv)
            simp only [List.cons_append] at N2
            obtain ⟨R2, hR7⟩ : ∃ R2, R2 = R ++ own := ⟨_, rfl⟩
            rw [← hR7] at N2
            have hin : ∀ p ∈ R, p ∈ R2 := fun p hp => by rw [hR7]; exact List.mem_append.mpr (.inl hp)
            have hq2 := hin _ hq
            have hDu2 := hDu.mono hin
            have hup := hok7.up
            clear hq hDu hv
            (((try k_fold); k_steps); repeat' (first | (show wpAny _ _ _ _ _ _; k_here; (with_reducible show wpAny _ _ (call (Value.ref 118) [Value.ref _, Value.str _ _]) _ _ _); k_dflt (refine' tellsX_use ?yk1 ?yk2 ?yk3 ?yk4 ?yk5 ?yk6 (open_spec ?ytu ?yts ?ytp ?ytq) ?ykd ?yku ?_; (case yk1 => k_asm); (case yk2 => k_asm); (case yk3 => k_asm); (case yk4 => k_asm); (case yk5 => k_asm); (case yk6 => exact rfl); (case ytu => k_updF); (case yts => assumption); (case ytp => omega); (case ytq => assumption); (case ykd => ktr_room); (case yku => ktr_units)); intro r' l' h' tk' F' N' hp'; obtain ⟨S', ⟨hr', hS'⟩, hl'⟩ := hp'; subst hr'; subst hl'; (try dsimp only at N'); (try dsimp only); (try k_sweep); k_steps) | (show wpAny _ _ _ _ _ _; k_here; (with_reducible show wpAny _ _ (call (Value.ref 106) [Value.ref _]) _ _ _); k_dflt (refine' tellsX_use ?yk1 ?yk2 ?yk3 ?yk4 ?yk5 ?yk6 (lawrow_spec ?yu) ?ykd ?yku ?_; (case yk1 => k_asm); (case yk2 => k_asm); (case yk3 => k_asm); (case yk4 => k_asm); (case yk5 => k_asm); (case yk6 => exact rfl); (case yu => (refine PartIn.mono ?_ (by assumption); intro p hp; repeat' (first | exact hp | refine List.Mem.tail _ ?_))); (case ykd => ktr_room); (case yku => ktr_units)); intro r' l' h' tk' F' N' hp'; obtain ⟨q', vs', n', hr', hl', hq', hD'⟩ := hp'; subst hr'; subst hl'; (try dsimp only at N'); (try dsimp only); (try k_sweep); k_steps) | (show wpAny _ _ _ _ _ _; k_here; (with_reducible show wpAny _ _ (call (Value.ref 50) [Value.str _ _, Value.int _ _]) _ _ _); k_dflt (refine' tellsX_use ?yk1 ?yk2 ?yk3 ?yk4 ?yk5 ?yk6 (lotat_some ?ytu ?yts) ?ykd ?yku ?_; (case yk1 => k_asm); (case yk2 => k_asm); (case yk3 => k_asm); (case yk4 => k_asm); (case yk5 => k_asm); (case yk6 => exact rfl); (case yts => assumption); (case ytu => omega); (case ykd => ktr_room); (case yku => ktr_units)); intro r' l' h' tk' F' N' hp'; obtain ⟨q', xx', t', tl', hr', hl', hP'⟩ := hp'; subst hr'; subst hl'; (try dsimp only at N'); (try dsimp only); (try k_sweep); k_steps) | (show wpAny _ _ _ _ _ _; k_here; (with_reducible show wpAny _ _ (call (Value.ref 111) [_, _]) _ _ _); k_dflt (refine' tellsX_use ?yk1 ?yk2 ?yk3 ?yk4 ?yk5 ?yk6 (partright_spec ?ytu ?yts ?ytp) ?ykd ?yku ?_; (case yk1 => k_asm); (case yk2 => k_asm); (case yk3 => k_asm); (case yk4 => k_asm); (case yk5 => k_asm); (case yk6 => exact rfl); (case ytp => assumption); (case ytu => (refine PartIn.mono ?_ (by assumption); intro p hp; repeat' (first | exact hp | refine List.Mem.tail _ ?_))); (case yts => (refine DatIn.mono ?_ (by assumption); intro p hp; repeat' (first | exact hp | refine List.Mem.tail _ ?_))); (case ykd => ktr_room); (case yku => ktr_units)); intro r' l' h' tk' F' N' hp'; obtain ⟨hr', hl'⟩ := hp'; subst hr'; subst hl'; (try dsimp only at N'); (try dsimp only); (try k_sweep); k_steps) | (show wpAny _ _ _ _ _ _; k_here; (with_reducible show wpAny _ _ (call (Value.ref 78) [Value.ref _, Value.ref _]) _ _ _); k_dflt (refine' tellsX_use ?yk1 ?yk2 ?yk3 ?yk4 ?yk5 ?yk6 (one_spec ?yu ?ys ?ym ?yn ?yp ?yq) ?ykd ?yku ?_; (case yk1 => k_asm); (case yk2 => k_asm); (case yk3 => k_asm); (case yk4 => k_asm); (case yk5 => k_asm); (case yk6 => exact rfl); (case yu => k_updF); (case ys => assumption); (case ym => k_mem); (case yn => k_ne); (case yp => exact Nat.succ_pos _); (case yq => exact Nat.le_of_ble_eq_true rfl); (case ykd => ktr_room); (case yku => ktr_units)); intro r' l' h' tk' F' N' hp'; obtain ⟨S', hr', hS', hl'⟩ := hp'; subst hl'; (try dsimp only at N'); (try dsimp only); (try k_sweep); (have hc9 := chars_of [97, 93, 94, 45, 37, 233] (by kernel_rfl!) hr'; obtain ⟨c', tc', hc', hcs'⟩ := hc9; clear hr'; subst hc'); k_steps)))
            · exfalso
              rename (_ : Int) ≠ _ => hbb
              exact hbb rfl
            · rename News _ _ _ _ => N8
              rename Fr _ _ _ _ => F8
              refine' midL_end () F8 N8 ?l1 ?l2 hoff trivial (fun _ h => nomatch h) ?l4
              case l1 =>
                intro p hp
                refine List.Mem.tail _ (List.Mem.tail _ (List.mem_append.mpr (.inr ?_)))
                rcases List.mem_cons.mp hp with h | hp
                · rw [h]; exact .head _
                · rcases List.mem_cons.mp hp with h | hp
                  · rw [h]; exact .tail _ (.head _)
                  · exact .tail _ (.tail _ (hin p hp))
              case l2 =>
                intro p hp
                refine List.Mem.tail _ (List.Mem.tail _ (List.mem_append.mpr (.inr (.tail _ (.tail _ ?_)))))
                rw [hR7]; exact List.mem_append.mpr (.inr hp)
              case l4 =>
                intro z h2 h3
                refine (if_neg (ne_stored h3 (.tail _ (.tail _ (.tail _ (.tail _ (.head _))))))).trans ?_
                refine (if_neg (ne_stored h3 (.tail _ (.tail _ (.tail _ (.head _)))))).trans ?_
                refine (if_neg (ne_stored h3 (.tail _ (.tail _ (.head _))))).trans ?_
                refine (if_neg (ne_stored h3 (.tail _ (.head _)))).trans ?_
                refine (if_neg (ne_stored h3 (.head _))).trans ?_
                exact off_base (fun _ h => (nomatch h)) h3
          · intro c u h5 tk5 hc F5 N5
            (((try k_fold); k_steps); repeat' (first | (show wpAny _ _ _ _ _ _; k_here; (with_reducible show wpAny _ _ (call (Value.ref 118) [Value.ref _, Value.str _ _]) _ _ _); k_dflt (refine' tellsX_use ?yk1 ?yk2 ?yk3 ?yk4 ?yk5 ?yk6 (open_spec ?ytu ?yts ?ytp ?ytq) ?ykd ?yku ?_; (case yk1 => k_asm); (case yk2 => k_asm); (case yk3 => k_asm); (case yk4 => k_asm); (case yk5 => k_asm); (case yk6 => exact rfl); (case ytu => k_updF); (case yts => assumption); (case ytp => omega); (case ytq => assumption); (case ykd => ktr_room); (case yku => ktr_units)); intro r' l' h' tk' F' N' hp'; obtain ⟨S', ⟨hr', hS'⟩, hl'⟩ := hp'; subst hr'; subst hl'; (try dsimp only at N'); (try dsimp only); (try k_sweep); k_steps) | (show wpAny _ _ _ _ _ _; k_here; (with_reducible show wpAny _ _ (call (Value.ref 106) [Value.ref _]) _ _ _); k_dflt (refine' tellsX_use ?yk1 ?yk2 ?yk3 ?yk4 ?yk5 ?yk6 (lawrow_spec ?yu) ?ykd ?yku ?_; (case yk1 => k_asm); (case yk2 => k_asm); (case yk3 => k_asm); (case yk4 => k_asm); (case yk5 => k_asm); (case yk6 => exact rfl); (case yu => (refine PartIn.mono ?_ (by assumption); intro p hp; repeat' (first | exact hp | refine List.Mem.tail _ ?_))); (case ykd => ktr_room); (case yku => ktr_units)); intro r' l' h' tk' F' N' hp'; obtain ⟨q', vs', n', hr', hl', hq', hD'⟩ := hp'; subst hr'; subst hl'; (try dsimp only at N'); (try dsimp only); (try k_sweep); k_steps) | (show wpAny _ _ _ _ _ _; k_here; (with_reducible show wpAny _ _ (call (Value.ref 50) [Value.str _ _, Value.int _ _]) _ _ _); k_dflt (refine' tellsX_use ?yk1 ?yk2 ?yk3 ?yk4 ?yk5 ?yk6 (lotat_some ?ytu ?yts) ?ykd ?yku ?_; (case yk1 => k_asm); (case yk2 => k_asm); (case yk3 => k_asm); (case yk4 => k_asm); (case yk5 => k_asm); (case yk6 => exact rfl); (case yts => assumption); (case ytu => omega); (case ykd => ktr_room); (case yku => ktr_units)); intro r' l' h' tk' F' N' hp'; obtain ⟨q', xx', t', tl', hr', hl', hP'⟩ := hp'; subst hr'; subst hl'; (try dsimp only at N'); (try dsimp only); (try k_sweep); k_steps) | (show wpAny _ _ _ _ _ _; k_here; (with_reducible show wpAny _ _ (call (Value.ref 111) [_, _]) _ _ _); k_dflt (refine' tellsX_use ?yk1 ?yk2 ?yk3 ?yk4 ?yk5 ?yk6 (partright_spec ?ytu ?yts ?ytp) ?ykd ?yku ?_; (case yk1 => k_asm); (case yk2 => k_asm); (case yk3 => k_asm); (case yk4 => k_asm); (case yk5 => k_asm); (case yk6 => exact rfl); (case ytp => assumption); (case ytu => (refine PartIn.mono ?_ (by assumption); intro p hp; repeat' (first | exact hp | refine List.Mem.tail _ ?_))); (case yts => (refine DatIn.mono ?_ (by assumption); intro p hp; repeat' (first | exact hp | refine List.Mem.tail _ ?_))); (case ykd => ktr_room); (case yku => ktr_units)); intro r' l' h' tk' F' N' hp'; obtain ⟨hr', hl'⟩ := hp'; subst hr'; subst hl'; (try dsimp only at N'); (try dsimp only); (try k_sweep); k_steps) | (show wpAny _ _ _ _ _ _; k_here; (with_reducible show wpAny _ _ (call (Value.ref 78) [Value.ref _, Value.ref _]) _ _ _); k_dflt (refine' tellsX_use ?yk1 ?yk2 ?yk3 ?yk4 ?yk5 ?yk6 (one_spec ?yu ?ys ?ym ?yn ?yp ?yq) ?ykd ?yku ?_; (case yk1 => k_asm); (case yk2 => k_asm); (case yk3 => k_asm); (case yk4 => k_asm); (case yk5 => k_asm); (case yk6 => exact rfl); (case yu => k_updF); (case ys => assumption); (case ym => k_mem); (case yn => k_ne); (case yp => exact Nat.succ_pos _); (case yq => exact Nat.le_of_ble_eq_true rfl); (case ykd => ktr_room); (case yku => ktr_units)); intro r' l' h' tk' F' N' hp'; obtain ⟨S', hr', hS', hl'⟩ := hp'; subst hl'; (try dsimp only at N'); (try dsimp only); (try k_sweep); (have hc9 := chars_of [97, 93, 94, 45, 37, 233] (by kernel_rfl!) hr'; obtain ⟨c', tc', hc', hcs'⟩ := hc9; clear hr'; subst hc'); k_steps)))
            rename News _ _ _ _ => N8
            refine' hret _ _ _ _ ?m1 ?m2 ?m3
            case m1 => k_asm
            case m2 => exact pick_right N8 (fun p hp => by rw [hR]; exact List.mem_append.mpr (.inr (List.mem_append.mpr (.inr hp))))
            case m3 => exact ⟨_, ⟨rfl, by assumption⟩, rfl⟩
end
theorem right_spec {w : World} {mean : ExcName → Option Value} {mg mb : Str → Option Value} {src : Addr} {S : Obj} {led : List (Addr × Obj)} {g : Obj → List (Addr × Obj)} (U : UpdF src S led g) (hs : SrcIs S) :
    TellsX w mean mg mb 123 60 900 led [.ref src] (fun r led' => ∃ S', (r = .bool true ∧ SrcIs S') ∧ led' = g S') := by
  refine (tells_src (R := fun r S' new => (r = .bool true ∧ SrcIs S') ∧ new = []) U fun rest hne _ _ => (right_core w mean mg mb src S rest hs hne).mono (fun _ h => h) ?_).mono (fun _ h => h) ?_
  · rintro r l ⟨S', h, rfl⟩
    exact ⟨_, fun _ h => h, S', [], ⟨h, rfl⟩, fun _ _ _ h => (nomatch h), rfl⟩
  · rintro r l ⟨S', new, ⟨h, rfl⟩, _, rfl⟩
    exact ⟨g S', fun _ h => h, S', h, rfl⟩
end Mine
end

end
end
end
section
set_option maxRecDepth 100000
set_option maxHeartbeats 8000000
namespace Mine
theorem told_lot : LotOk [93, 97, 93] [(93, 93), (97, 97)] false := by
  refine ⟨true, [([97], 97, 97)], rfl, rfl, ?_, by decide, .inl rfl⟩
  intro j it h
  cases j with
  | zero =>
    cases h
    exact .inr (.inr ⟨rfl, rfl, .inl (by decide)⟩)
  | succ j => simp at h
theorem ofs_told : Str.ofString "[]a]" = ⟨#[91, 93, 97, 93]⟩ := by decide +kernel
theorem ofs_a : Str.ofString "a" = ⟨#[97]⟩ := by decide +kernel
theorem told_parse : gparse (Str.ofString "[]a]").cps.toList = some [.lot [(93, 93), (97, 97)] false] := by
  rw [ofs_told]
  exact (Good.lot told_lot).parse
theorem open_none : gparse (Str.ofString "[").cps.toList = none := by
  rw [ofs_br]
  show gparse (91 :: []) = none
  rw [gparse_lot]
  have h : lotParse [] = none := lot_open (y := []) (z := []) (.inl rfl) (by decide)
  rw [h]
theorem told_dat : rowDat (.lot [(93, 93), (97, 97)] false) = .tuple [.int 3, .none, .list [.tuple [.str (Str.ofString "]"), .str (Str.ofString "]")], .tuple [.str (Str.ofString "a"), .str (Str.ofString "a")]], .bool false] := by
  rw [ofs_shut, ofs_a]; rfl
theorem glob_told {w : World} {mean : ExcName → Option Value} {mg mb : Str → Option Value} {rest : List (Addr × Obj)} {tx : Tok} :
    TellsX w mean mg mb 57 30 300 rest [.str (Str.ofString "[]a]") tx] (fun r led' => ∃ pl x kk R, r = .ref pl ∧ PartIn w R (.ref x) (.lot [(93, 93), (97, 97)] false) ∧ led' = (pl, listOf #[.ref x] kk) :: R ∧ (∀ p ∈ rest, p ∈ R)) :=
  (glob_some (by rw [ofs_told]; decide) told_parse).mono (fun _ h => h) (by
    rintro r l ⟨pl, vs, kk, tl, rfl, hp, rfl, _⟩
    cases hp with
    | cons h1 h2 =>
      cases h2
      cases h1 with
      | lot a b c d => exact ⟨_, fun _ h => h, pl, _, kk, tl ++ rest, rfl, PartIn.mono (fun p hp => List.mem_append.mpr (.inl hp)) (.lot a b c d), rfl, fun p hp => List.mem_append.mpr (.inr hp)⟩)
theorem told_ok : dOk 8 (.list [rowDat (.lot [(93, 93), (97, 97)] false)]) = true := by decide +kernel
theorem lawrow_sub {w : World} {mean : ExcName → Option Value} {mg mb : Str → Option Value} {rest sub : List (Addr × Obj)} {v : Value} {r : Row} (h : PartIn w sub v r) (hs : ∀ p ∈ sub, p ∈ rest) :
    TellsX w mean mg mb 106 10 100 rest [v] (fun x led' => ∃ q vs n, x = .ref q ∧ led' = (q, tupN vs n) :: rest ∧ (∀ z ∈ rest, z.1 < q) ∧ DatIn ((q, tupN vs n) :: sub) x (rowDat r)) := by
  obtain ⟨xx, d, ka, kb, kc, kd, v1, v2, v3, v4, rfl, h1, h2, g1, g2, g3, g4, hD⟩ := part_dat h
  exact (lawrow_core w mean mg mb rest xx d ka kb kc kd v1 v2 v3 v4 g1 g2 g3 g4 (hs _ h1) (hs _ h2)).mono (fun _ h => h) (by rintro _ _ ⟨q, n, rfl, rfl, hq⟩; exact ⟨_, fun _ h => h, _, _, _, rfl, rfl, hq, hD q n _ (fun _ h => .tail _ h) (.head _)⟩)
theorem big_ok (x : Int) (b : Bool) : 0 ≤ (if -1 - x > x then -1 - x else x) * (if b = true then 1 else 0) := by
  refine Int.mul_nonneg ?_ ?_
  · split <;> omega
  · split <;> decide
theorem comp_end1 {h₀ : Heap} {L I C D : Addr} {m : Str → Option Value} {s₁ : Shared} {oI oC oD : Obj} {S : List (Addr × Obj) → Prop} {rest : Value → List (Addr × Obj) → Prop} {y : Value} {h' : Heap} {tk : Nat} {a : Addr × Obj} {R : List (Addr × Obj)}
    (F : Fr h₀ L h' m) (N : News h₀ L h' (a :: (I, oI) :: (C, oC) :: (D, oD) :: R)) (hq : ∀ z ∈ (I, oI) :: (C, oC) :: (D, oD) :: R, z.1 < a.1) (off : LCg.Off3 I C D R) (hS : S (a :: R)) (r : rest y (a :: R)) :
    LCg.CompEnd h₀ L m s₁ I oI C oC D oD S rest y { s₁ with heap := h', toks := tk } :=
  LCg.CompEnd.intro F N (a :: R) (fun p hp => by
      rcases List.mem_cons.mp hp with h | hp
      · rw [h]; exact .tail _ (.head _)
      · rcases List.mem_cons.mp hp with h | hp
        · rw [h]; exact .tail _ (.tail _ (.head _))
        · rcases List.mem_cons.mp hp with h | hp
          · rw [h]; exact .tail _ (.tail _ (.tail _ (.head _)))
          · rcases List.mem_cons.mp hp with h | hp
            · rw [h]; exact .head _
            · exact .tail _ (.tail _ (.tail _ (.tail _ hp))))
    ⟨⟨Nat.ne_of_gt (hq (I, oI) (.head _)), Nat.ne_of_gt (hq (C, oC) (.tail _ (.head _))), Nat.ne_of_gt (hq (D, oD) (.tail _ (.tail _ (.head _))))⟩, off⟩ hS r
section
local macro_rules | `(tactic| k_mem) => `(tactic| first | assumption | exact List.Mem.head _ | (refine' List.Mem.tail _ ?_; k_mem))
local macro_rules | `(tactic| walk_at "exec For Name Call cons nil") => `(tactic| (k_here; (rename Fr _ _ _ _ => lF'); (with_unfolding_all refine' For_invVF lF' ?k1 ?k2 ?_; (case k1 => exact rfl); (case k2 => exact rfl); k_whole)))
local macro_rules | `(tactic| walk_at "call type:range") => `(tactic| ((rename Fr _ _ _ _ => F'); (rename News _ _ _ _ => N'); (with_unfolding_all refine range1_rows F' N' ?_; intro _ _ _ _ _ _ _ _ _)))
local macro_rules | `(tactic| walk_at "pyIter ref") => `(tactic| ((with_reducible show wpAny _ _ (pyIter _) (fun it s₂ => LoopAtV _ _ _ _ _ _ _ _ _ it s₂) _ _); refine stop_elim ?_))
local macro_rules | `(tactic| walk_at "call ref") => `(tactic| (k_here; (with_reducible show wpAny _ _ (call (Value.ref 57) [Value.str _ _]) _ _ _); k_dflt (refine' tellsX_use ?k1 ?k2 ?k3 ?k4 ?k5 ?k6 glob_told ?kd ?ku ?_; (case k1 => k_asm); (case k2 => k_asm); (case k3 => k_asm); (case k4 => k_asm); (case k5 => k_asm); (case k6 => exact rfl); (case kd => ktr_room); (case ku => ktr_units)); intro r' l' h' tk' F' N' hp'; obtain ⟨pl', x', kk', R', hr', hP', hl', hs'⟩ := hp'; subst hr'; subst hl'; (try dsimp only at N'); (try dsimp only); (try k_sweep)))
local macro_rules | `(tactic| walk_at "call ref") => `(tactic| (k_here; (with_reducible show wpAny _ _ (call (Value.ref 106) [Value.ref _]) _ _ _); k_dflt (refine' tellsX_use ?k1 ?k2 ?k3 ?k4 ?k5 ?k6 (lawrow_sub ?u ?us) ?kd ?ku ?_; (case k1 => k_asm); (case k2 => k_asm); (case k3 => k_asm); (case k4 => k_asm); (case k5 => k_asm); (case k6 => exact rfl); (case u => assumption); (case us => (intro p hp; repeat' (first | exact hp | refine List.Mem.tail _ ?_))); (case kd => ktr_room); (case ku => ktr_units)); intro r' l' h' tk' F' N' hp'; obtain ⟨q', vs', n', hr', hl', hq', hD'⟩ := hp'; subst hr'; subst hl'; (try dsimp only at N'); (try dsimp only); (try k_sweep)))
local macro_rules | `(tactic| walk_at "call ref") => `(tactic| (k_here; (with_reducible show wpAny _ _ (call (Value.ref 57) [Value.str _ _]) _ _ _); k_dflt (refine' tellsX_use ?k1 ?k2 ?k3 ?k4 ?k5 ?k6 (glob_none ?u open_none) ?kd ?ku ?_; (case k1 => k_asm); (case k2 => k_asm); (case k3 => k_asm); (case k4 => k_asm); (case k5 => k_asm); (case k6 => exact rfl); (case u => decide +kernel); (case kd => ktr_room); (case ku => ktr_units)); intro r' l' h' tk' F' N' hp'; obtain ⟨hr', hl'⟩ := hp'; subst hr'; subst hl'; (try dsimp only at N'); (try dsimp only); (try k_sweep)))
local macro_rules | `(tactic| walk_at "compareOp NotEq ref ref") => `(tactic| refine stop_elim ?_)
local macro_rules | `(tactic| kqd_in) => `(tactic| exact DatIn.bool _)
local macro_rules | `(tactic| walk_at "CompEnd") => `(tactic| refine stop_elim ?_)
local macro_rules | `(tactic| k_all) => `(tactic| first | assumption | exact ne_ofLt (by assumption))
local macro_rules | `(tactic| walk_at "call ref") => `(tactic| ((with_reducible show wpAny _ _ (call (Value.ref 123) _) _ _ _); refine stop_elim ?_))
theorem law_holds : PySem.Challenge.rw_xm0747_01.Holds := by
  w_top off
  apply Mine.hd
  k_go0
  all_goals try k_fold
  (k_steps; repeat' (first | (show wpAny _ _ _ _ _ _; k_here; (with_reducible show wpAny _ _ (call (Value.ref 123) [Value.ref _]) _ _ _); k_dflt (refine' tellsX_use ?yk1 ?yk2 ?yk3 ?yk4 ?yk5 ?yk6 (right_spec ?ytu ?yts) ?ykd ?yku ?_; (case yk1 => k_asm); (case yk2 => k_asm); (case yk3 => k_asm); (case yk4 => k_asm); (case yk5 => k_asm); (case yk6 => exact rfl); (case ytu => k_updF); (case yts => exact ⟨_, _, _, _, _, src_turn _ _ (big_ok _ _), rfl⟩); (case ykd => ktr_room); (case yku => ktr_units)); intro r' l' h' tk' F' N' hp'; obtain ⟨S', ⟨hr', hS'⟩, hl'⟩ := hp'; subst hr'; subst hl'; (try dsimp only at N'); (try dsimp only); (try k_sweep); k_steps)))
  show LCg.CompEnd _ _ _ _ _ _ _ _ _ _ _ _ _ _
  rename News _ _ _ _ => N7
  rename (_ ∧ LCg.Off3 _ _ _ _) => hof
  refine comp_end1 (by assumption) N7 (by assumption) hof ?hS1 ?hR1
  case hS1 => exact Or.inr ⟨_, by k_mem, rfl, _, rfl⟩
  (k_steps; repeat' (first | (show wpAny _ _ _ _ _ _; k_here; (with_reducible show wpAny _ _ (call (Value.ref 123) [Value.ref _]) _ _ _); k_dflt (refine' tellsX_use ?yk1 ?yk2 ?yk3 ?yk4 ?yk5 ?yk6 (right_spec ?ytu ?yts) ?ykd ?yku ?_; (case yk1 => k_asm); (case yk2 => k_asm); (case yk3 => k_asm); (case yk4 => k_asm); (case yk5 => k_asm); (case yk6 => exact rfl); (case ytu => k_updF); (case yts => exact ⟨_, _, _, _, _, src_turn _ _ (big_ok _ _), rfl⟩); (case ykd => ktr_room); (case yku => ktr_units)); intro r' l' h' tk' F' N' hp'; obtain ⟨S', ⟨hr', hS'⟩, hl'⟩ := hp'; subst hr'; subst hl'; (try dsimp only at N'); (try dsimp only); (try k_sweep); k_steps)))
  show wpAny _ _ _ _ _ _
  refine' dat_ne (d := .list [rowDat (.lot [(93, 93), (97, 97)] false)]) ?q1 ?q2 ?q3 told_ok ?q5 ?_
  case q1 => k_asm
  case q2 =>
    refine DatIn.list (vs := [_]) (by k_mem) (.cons ?_ .nil)
    refine DatIn.mono ?_ (by assumption)
    intro p hp
    rcases List.mem_cons.mp hp with h | hp
    · rw [h]; k_mem
    · repeat' (first | exact hp | refine List.Mem.tail _ ?_)
  case q3 => rw [told_dat]; kqd_in
  case q5 => units_room
  (k_steps; repeat' (first | (show wpAny _ _ _ _ _ _; k_here; (with_reducible show wpAny _ _ (call (Value.ref 123) [Value.ref _]) _ _ _); k_dflt (refine' tellsX_use ?yk1 ?yk2 ?yk3 ?yk4 ?yk5 ?yk6 (right_spec ?ytu ?yts) ?ykd ?yku ?_; (case yk1 => k_asm); (case yk2 => k_asm); (case yk3 => k_asm); (case yk4 => k_asm); (case yk5 => k_asm); (case yk6 => exact rfl); (case ytu => k_updF); (case yts => exact ⟨_, _, _, _, _, src_turn _ _ (big_ok _ _), rfl⟩); (case ykd => ktr_room); (case yku => ktr_units)); intro r' l' h' tk' F' N' hp'; obtain ⟨S', ⟨hr', hS'⟩, hl'⟩ := hp'; subst hr'; subst hl'; (try dsimp only at N'); (try dsimp only); (try k_sweep); k_steps)))
  show wpAny _ _ _ _ _ _
  refine range_inv (σ := Unit) (fun _ => []) (fun _ => []) (fun _ _ => True) [] () rfl (by assumption) ?sm (rangeSize_nat _ _) (by k_asm) (by k_asm) (fun _ h => nomatch h) (fun _ h => nomatch h) trivial ?_ ?_
  case sm => exact small_one (by decide) (by decide) (by split <;> split <;> omega) (by split <;> split <;> omega)
  · intro i c u tt h2 tk2 own hi hP hoff F2 N2
    simp only [List.nil_append] at N2
    (k_steps; repeat' (first | (show wpAny _ _ _ _ _ _; k_here; (with_reducible show wpAny _ _ (call (Value.ref 123) [Value.ref _]) _ _ _); k_dflt (refine' tellsX_use ?yk1 ?yk2 ?yk3 ?yk4 ?yk5 ?yk6 (right_spec ?ytu ?yts) ?ykd ?yku ?_; (case yk1 => k_asm); (case yk2 => k_asm); (case yk3 => k_asm); (case yk4 => k_asm); (case yk5 => k_asm); (case yk6 => exact rfl); (case ytu => k_updF); (case yts => exact ⟨_, _, _, _, _, src_turn _ _ (big_ok _ _), rfl⟩); (case ykd => ktr_room); (case yku => ktr_units)); intro r' l' h' tk' F' N' hp'; obtain ⟨S', ⟨hr', hS'⟩, hl'⟩ := hp'; subst hr'; subst hl'; (try dsimp only at N'); (try dsimp only); (try k_sweep); k_steps)))
    all_goals
      rename News _ _ _ _ => N7
      rename Fr _ _ _ _ => F7
      refine mid_end () F7 N7 (fun _ h => nomatch h) (fun p hp => .tail _ hp) hoff trivial (fun _ h => nomatch h) ?_
      intro z h1 _ h3
      refine (if_neg h1).trans ?_
      exact off_base (fun _ h => (nomatch h)) h3
  · intro c u h3 tk3 hP F3 N3
    (k_steps; repeat' (first | (show wpAny _ _ _ _ _ _; k_here; (with_reducible show wpAny _ _ (call (Value.ref 123) [Value.ref _]) _ _ _); k_dflt (refine' tellsX_use ?yk1 ?yk2 ?yk3 ?yk4 ?yk5 ?yk6 (right_spec ?ytu ?yts) ?ykd ?yku ?_; (case yk1 => k_asm); (case yk2 => k_asm); (case yk3 => k_asm); (case yk4 => k_asm); (case yk5 => k_asm); (case yk6 => exact rfl); (case ytu => k_updF); (case yts => exact ⟨_, _, _, _, _, src_turn _ _ (big_ok _ _), rfl⟩); (case ykd => ktr_room); (case yku => ktr_units)); intro r' l' h' tk' F' N' hp'; obtain ⟨S', ⟨hr', hS'⟩, hl'⟩ := hp'; subst hr'; subst hl'; (try dsimp only at N'); (try dsimp only); (try k_sweep); k_steps)))
end
end Mine
end

theorem PySem.Challenge.cw_xm0747_01_holds : PySem.Challenge.rw_xm0747_01.Holds := by
  exact Mine.law_holds
