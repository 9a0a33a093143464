import PyProof.Rows.All
import Wide.All
import OpenK.AllK
import Wide.FinOn
import PySem.Challenge.RW_og0122_01
open PySem PySem.W PyProof.Rows PySem.Spec PySem.Calls
set_option Elab.async false
set_option maxRecDepth 100000
namespace Mine
set_option maxHeartbeats 8000000 in
open_top hd for PySem.Challenge.rw_og0122_01
section
theorem news_tail {h₀ h : Heap} {L : Addr} {x : Addr × Obj} {r : List (Addr × Obj)} (N : News h₀ L h (x :: r)) : News h₀ L h r := fun p hp => N p (List.mem_cons_of_mem _ hp)
theorem ints_tail {us : List Value} {l : List Int} (hi : IntsAre us l) (hne : l ≠ []) : ∃ y r t, us = y :: r ∧ y = Value.int (l.headD 0) t ∧ IntsAre r l.tail := by
  cases hi with
  | nil => exact absurd rfl hne
  | cons k t r => exact ⟨_, _, t, rfl, rfl, r⟩
section
variable {prog : Program} {w : World} {A : Around} {E : Value → Shared → Prop} {s : Shared} {h₀ : Heap} {L D : Addr} {m : Str → Option Value} {news news' : List (Addr × Obj)} {n : Nat} {u : Tok}
theorem pop0 {us : List Value} {l : List Int} {Q : Value → Shared → Prop} (F : Fr h₀ L s.heap m) (N : News h₀ L s.heap news) (U : Upd D (listOf us.toArray n) (listOf us.tail.toArray (n + 1)) news news') (hi : IntsAre us l) (hne : decide (l = []) = false)
    (hz : us.length ≤ sizeLine) (h : ∀ h' t, Fr h₀ L h' m → News h₀ L h' news' → IntsAre us.tail l.tail → Q (.int (l.headD 0) t) { s with heap := h' }) : wpAny (model prog w) A (call (.builtin "list.pop") [.ref D, .int 0 u]) Q E s := by
  obtain ⟨y, r, t, e1, e2, h3⟩ := ints_tail hi (of_decide_eq_false hne)
  subst e1
  subst e2
  refine kl_popAt (k := 0) (p := []) (q := r) (y := .int (l.headD 0) t) F N (by decide) ?_ rfl U (by simpa using hz) fun h' F' N' => h h' t F' N' h3
  simp [seqIndex?]
end
local macro_rules | `(tactic| units_room) => `(tactic| ktr_units)
local macro_rules | `(tactic| k_all) => `(tactic| with_reducible assumption)
local macro_rules | `(tactic| walk_at "call builtin:list.pop") => `(tactic| (k_here; (with_reducible show wpAny _ _ (call (Value.builtin _) [Value.ref _, Value.int 0 _]) _ _ _); k_dflt (refine' pop0 ?F ?N ?U ?i ?l ?z ?_; (case F => k_asm); (case N => k_asm); (case U => k_upd); (case i => with_reducible assumption); (case l => with_reducible assumption); (case z => ((rename IntsAre _ _ => hI9); (have hL9 := IntsAre.length hI9); rw [PySem.sizeLine_eq]; omega)); (intro h' t' F' N' hI'))))
section
variable {w : World} {loose : List Str} {mean : ExcName → Option Value} {mg mb : Str → Option Value} {dp un : Nat} {gd : Option (List Code)} {cn : Str} {cs : Scope} {a : Addr} {ccd : Value} {cl : List (Str × Addr)} {outer : List Env} {A₀ : Around} {base h₀ : Heap} {L : Addr} {m : Str → Option Value} {s : Shared} {Q E : Value → Shared → Prop} {rest : List (Addr × Obj)}

set_option maxHeartbeats 4000000 in
theorem draw_in (B : Below A₀ base outer h₀) (F : Fr h₀ L s.heap m) (X : (Mine.hd.heap_39 w.params).In h₀) (T : Top Mine.hd.view_39 loose mean mg mb h₀) (hk : cs.kind = .function) (hd : dp + 1 < recursionLimit) (hu : un + 200 < cLine)
    {p q : Addr} {k r many : Int} {t1 t2 tm : Tok} {n1 n2 : Nat} {vs : List Value} {ns : List Int}
    (N : News h₀ L s.heap ((p, listOf #[.ref q, .int k t1, .int r t2] n1) :: (q, listOf vs.toArray n2) :: rest)) (hrp : ∀ z ∈ rest, z.1 ≠ p) (hrq : ∀ z ∈ rest, z.1 ≠ q) (hpq : @Ne Nat p q)
    (hi : IntsAre vs ns) (hl : ns.length ≤ 63) (hm : 0 < many) (hm2 : many < 1000)
    (ret : ∀ (v k' r' : Int) (t u1 u2 : Tok) (n1' n2' : Nat) (vs' : List Value) (ns' : List Int) h' tk', 0 ≤ v → v < many → IntsAre vs' ns' → ns'.length ≤ 63 →
      Fr h₀ L h' m → News h₀ L h' ((p, listOf #[.ref q, .int k' u1, .int r' u2] n1') :: (q, listOf vs'.toArray n2') :: rest) → Q (.int v t) { s with heap := h', toks := tk' }) :
    wpAny (model PySem.Challenge.pw_og0122_01 w) (ktrTop dp un gd cn cs L a ccd cl outer) (call (.ref 123) [.ref p, .int many tm]) Q E s := by
  w_top off
  refine wpAny_call ?_
  k_dflt cell_enter
  k_steps
  all_goals
    try first
      | (refine' ret _ _ _ _ _ _ _ _ _ _ _ _ (fmod_lo _ hm) (fmod_hi _ hm) ?c ?d ?e ?f
         case f => first | assumption | exact news_tail (by assumption)
         case c => assumption
         case d => first | assumption | ((rw [List.length_tail]); omega)
         case e => assumption)
end
end
section
def num (ks : List Int) : Int := ks.foldl (fun t c => 256 * t + c) 0
section
variable {w : World} {loose : List Str} {mean : ExcName → Option Value} {mg mb : Str → Option Value} {dp un : Nat} {gd : Option (List Code)} {cn : Str} {cs : Scope} {a : Addr} {ccd : Value} {cl : List (Str × Addr)} {outer : List Env} {A₀ : Around} {base h₀ : Heap} {L : Addr} {m : Str → Option Value} {s : Shared} {Q E : Value → Shared → Prop} {news : List (Addr × Obj)}
section
local macro_rules | `(tactic| k_allIn) => `(tactic| exact fun _ hp => List.mem_append_left _ hp)
local macro_rules | `(tactic| k_ownIn) => `(tactic| exact List.mem_append_right _ (by assumption))
set_option maxHeartbeats 4000000 in
theorem field_ok
    (B : Below A₀ base outer h₀) (F : Fr h₀ L s.heap m) (X : (Mine.hd.heap_39 w.params).In h₀) (N : News h₀ L s.heap news) (T : Top Mine.hd.view_39 loose mean mg mb h₀) (hk : cs.kind = .function) (hd : dp + 1 < recursionLimit) (hu : un + 200 < cLine)
    {b : Array UInt8} {t : Tok} {ks : List Int} (hb : KBw.bInts b = ks)
    (ret : ∀ t h' tk', Fr h₀ L h' m → News h₀ L h' news → Q (.int (num ks) t) { s with heap := h', toks := tk' }) :
    wpAny (model PySem.Challenge.pw_og0122_01 w) (ktrTop dp un gd cn cs L a ccd cl outer) (call (.ref 90) [.bytes b t]) Q E s := by
  w_top off
  refine wpAny_call ?_
  k_dflt cell_enter
  k_steps
  all_goals exact ret _ _ _ (by assumption) (by assumption)
end
end
end
section
section
variable {w : World} {loose : List Str} {mean : ExcName → Option Value} {mg mb : Str → Option Value} {dp un : Nat} {gd : Option (List Code)} {cn : Str} {cs : Scope} {a : Addr} {ccd : Value} {cl : List (Str × Addr)} {outer : List Env} {A₀ : Around} {base h₀ : Heap} {L : Addr} {m : Str → Option Value} {s : Shared} {Q E : Value → Shared → Prop} {news : List (Addr × Obj)}
def numR (ks : List Int) (j : Nat) : Int := num (ks.drop (ks.length - j))
theorem numR_zero (ks : List Int) : numR ks 0 = 0 := by simp [numR, num]
theorem num_foldl (ks : List Int) (x : Int) : ks.foldl (fun t c => 256 * t + c) x = x * 256 ^ ks.length + num ks := by
  unfold num
  induction ks generalizing x with
  | nil => simp
  | cons k r ih =>
    simp only [List.foldl_cons, List.length_cons]
    rw [ih, ih (256 * 0 + k), Int.pow_succ, Int.add_mul]
    have e : 256 * x * 256 ^ r.length = x * (256 ^ r.length * 256) := by rw [Int.mul_comm 256 x, Int.mul_assoc, Int.mul_comm 256]
    have e2 : (256 * 0 + k) = k := by omega
    rw [e, e2]
    omega
theorem num_cons (k : Int) (r : List Int) : num (k :: r) = k * 256 ^ r.length + num r := by
  have h := num_foldl r (256 * 0 + k)
  have e2 : (256 * 0 + k) = k := by omega
  rw [e2] at h
  show r.foldl (fun t c => 256 * t + c) (256 * 0 + k) = _
  rw [e2]
  exact h
theorem numR_succ {ks : List Int} {j : Nat} (h : j < ks.length) : numR ks (j + 1) = numR ks j + ks.getD (ks.length - 1 - j) 0 * 256 ^ j := by
  unfold numR
  have e : ks.length - j = (ks.length - (j + 1)) + 1 := by omega
  have hlt : ks.length - (j + 1) < ks.length := by omega
  rw [List.drop_eq_getElem_cons hlt, num_cons, ← e, List.length_drop]
  have e3 : ks.length - (ks.length - j) = j := by omega
  have e4 : ks.length - 1 - j = ks.length - (j + 1) := by omega
  rw [e3, e4, List.getD_eq_getElem?_getD, List.getElem?_eq_getElem hlt]
  simp only [Option.getD_some]
  omega
theorem numR_all (ks : List Int) : numR ks ks.length = num ks := by simp [numR]
end
end
section
section
variable {w : World} {loose : List Str} {mean : ExcName → Option Value} {mg mb : Str → Option Value} {dp un : Nat} {gd : Option (List Code)} {cn : Str} {cs : Scope} {a : Addr} {ccd : Value} {cl : List (Str × Addr)} {outer : List Env} {A₀ : Around} {base h₀ : Heap} {L : Addr} {m : Str → Option Value} {s : Shared} {Q E : Value → Shared → Prop} {news : List (Addr × Obj)}
local macro_rules | `(tactic| k_allIn) => `(tactic| exact fun _ hp => List.mem_append_left _ hp)
local macro_rules | `(tactic| k_ownIn) => `(tactic| exact List.mem_append_right _ (by assumption))
local macro_rules | `(tactic| k_steps) => `(tactic| repeat' (first | (k_unfold; (try dsimp only)) | (k_end; wrow_close) | (walk1; (all_goals try dsimp only)) | (dsimp only; walk1) | (leave1; walk_say "STEP leave1"; try dsimp only) | fail "no step"))
@[irreducible] def pw (k : Int) : Int := 256 ^ k.toNat
theorem pw_eq (k : Int) : pw k = 256 ^ k.toNat := by unfold pw; rfl
theorem pow_pw {prog : Program} {A : Around} {n : Int} {t u : Tok} (hn : 0 ≤ n) (hn2 : n ≤ 1000000) (h : Q (.int (pw n) s.toks) { s with toks := s.toks + 1 }) :
    wpAny (model prog w) A (binaryOp .Pow (.int 256 t) (.int n u)) Q E s := pow_int_small hn hn2 (by decide) (by rw [← pw_eq]; exact h)
theorem numR_step {ks : List Int} {pre : List Int} {total k : Int} (h : total = numR ks pre.length) (hlt : pre.length < ks.length) (hk : k = 0 + (pre.length : Int)) :
    total + ks.getD ((ks.length : Int) - 1 - k).toNat 0 * pw k = numR ks (pre ++ [k]).length := by
  have e : ((ks.length : Int) - 1 - k).toNat = ks.length - 1 - pre.length := by omega
  have e2 : k.toNat = pre.length := by omega
  rw [List.length_append, List.length_singleton, numR_succ hlt, ← h, e, pw_eq, e2]
local macro_rules | `(tactic| walk_at "binaryOp Pow int int") => `(tactic| (k_here; (refine pow_pw (by omega) (by omega) ?_)))
structure Mk (P : Prop) : Prop where
  out : P
theorem mk_in {P : Prop} (h : Mk P) : P := h.out
local macro_rules | `(tactic| walk_at "pyIter ref") => `(tactic| refine mk_in ?_)
local macro_rules | `(tactic| walk_at "InvEndN") => `(tactic| refine mk_in ?_)
set_option maxHeartbeats 400000 in
theorem number_ok
    (B : Below A₀ base outer h₀) (F : Fr h₀ L s.heap m) (X : (Mine.hd.heap_39 w.params).In h₀) (N : News h₀ L s.heap news) (T : Top Mine.hd.view_39 loose mean mg mb h₀) (hk : cs.kind = .function) (hd : dp + 1 < recursionLimit) (hu : un + 200 < cLine)
    {b : Array UInt8} {t : Tok} {ks : List Int} (hb : KBw.bInts b = ks) (hl : ks.length ≤ 16)
    (ret : ∀ t h' tk', Fr h₀ L h' m → News h₀ L h' news → Q (.int (num ks) t) { s with heap := h', toks := tk' }) :
    wpAny (model PySem.Challenge.pw_og0122_01 w) (ktrTop dp un gd cn cs L a ccd cl outer) (call (.ref 137) [.bytes b t]) Q E s := by
  w_top off
  refine wpAny_call ?_
  k_dflt cell_enter
  k_steps
  refine Mk.mk ?_
  (k_with "state" => exact (numR_zero _).symm)
  k_state (fun pre total => total = numR ks pre.length) "total"
  k_with_none
  k_steps
  · refine Mk.mk ?_
    (rename News _ _ _ _ => nE')
    refine kst_end (⟨_, _⟩) (by assumption) nE' (fun p hp => List.mem_append_left _ hp) (fun p hp => List.mem_append_right _ hp) rfl trivial (by kst_all) (by kst_same) ?g
    exact numR_step kInv (by omega) kEq
  · rw [rangeKs_length, show ((ks.length : Int) - 0).toNat = ks.length by omega, numR_all] at kInv
    subst kInv
    exact ret _ _ _ (by assumption) (by assumption)
end
end
section
section
variable {w : World} {loose : List Str} {mean : ExcName → Option Value} {mg mb : Str → Option Value} {dp un : Nat} {gd : Option (List Code)} {cn : Str} {cs : Scope} {a : Addr} {ccd : Value} {cl : List (Str × Addr)} {outer : List Env} {A₀ : Around} {base h₀ : Heap} {L : Addr} {m : Str → Option Value} {s : Shared} {Q E : Value → Shared → Prop} {news : List (Addr × Obj)}
theorem num_snoc (l : List Int) (c : Int) : num (l ++ [c]) = 256 * num l + c := by simp [num]
theorem fdiv256 {x c : Int} (h0 : 0 ≤ c) (h1 : c < 256) : (256 * x + c).fdiv 256 = x := by
  rw [Int.fdiv_eq_ediv_of_nonneg _ (by decide)]; omega
theorem fmod256 {x c : Int} (h0 : 0 ≤ c) (h1 : c < 256) : (256 * x + c).fmod 256 = c := by
  rw [Int.fmod_eq_emod_of_nonneg _ (by decide)]; omega
theorem take_one {ks : List Int} {j : Nat} (h : j < ks.length) : ks.take (ks.length - j) = ks.take (ks.length - (j + 1)) ++ [ks.getD (ks.length - (j + 1)) 0] := by
  have e : ks.length - j = (ks.length - (j + 1)) + 1 := by omega
  have hlt : ks.length - (j + 1) < ks.length := by omega
  rw [e, List.take_add_one, List.getD_eq_getElem?_getD, List.getElem?_eq_getElem hlt]
  simp
theorem drop_one {ks : List Int} {j : Nat} (h : j < ks.length) : (ks.drop (ks.length - (j + 1))).reverse = (ks.drop (ks.length - j)).reverse ++ [ks.getD (ks.length - (j + 1)) 0] := by
  have e : ks.length - j = (ks.length - (j + 1)) + 1 := by omega
  have hlt : ks.length - (j + 1) < ks.length := by omega
  rw [List.drop_eq_getElem_cons hlt, List.reverse_cons, e, List.getD_eq_getElem?_getD, List.getElem?_eq_getElem hlt]
  simp
theorem getD_byte {ks : List Int} (hb : ∀ k ∈ ks, 0 ≤ k ∧ k < 256) (i : Nat) : 0 ≤ ks.getD i 0 ∧ ks.getD i 0 < 256 := by
  rw [List.getD_eq_getElem?_getD]
  cases h : ks[i]? with
  | none => simp
  | some k => exact hb k (List.mem_of_getElem? h)
theorem fo_mod {ks : List Int} (hb : ∀ k ∈ ks, 0 ≤ k ∧ k < 256) {j : Nat} (h : j < ks.length) : (num (ks.take (ks.length - j))).fmod 256 = ks.getD (ks.length - (j + 1)) 0 := by
  have g := getD_byte hb (ks.length - (j + 1))
  rw [take_one h, num_snoc, fmod256 g.1 g.2]
theorem fo_div {ks : List Int} (hb : ∀ k ∈ ks, 0 ≤ k ∧ k < 256) {j : Nat} (h : j < ks.length) : (num (ks.take (ks.length - j))).fdiv 256 = num (ks.take (ks.length - (j + 1))) := by
  have g := getD_byte hb (ks.length - (j + 1))
  rw [take_one h, num_snoc, fdiv256 g.1 g.2]
theorem fo_step {ks : List Int} (hb : ∀ k ∈ ks, 0 ≤ k ∧ k < 256) {vs : List Value} {j : Nat} {r : Int} {t : Tok} (hv : vs.length = j) (hr : r = num (ks.take (ks.length - j))) (h : j < ks.length) (hi : IntsAre vs (ks.drop (ks.length - vs.length)).reverse) :
    IntsAre (vs ++ [.int (r.fmod 256) t]) (ks.drop (ks.length - (vs ++ [Value.int (r.fmod 256) t]).length)).reverse ∧ (vs ++ [Value.int (r.fmod 256) t]).length = j + 1 ∧ r.fdiv 256 = num (ks.take (ks.length - (j + 1))) := by
  subst hv
  rw [List.length_append, List.length_singleton, drop_one h, hr, fo_mod hb h, fo_div hb h]
  exact ⟨IntsAre.append hi (.cons _ _ .nil), rfl, rfl⟩
end
end
section
section
variable {w : World} {loose : List Str} {mean : ExcName → Option Value} {mg mb : Str → Option Value} {dp un : Nat} {gd : Option (List Code)} {cn : Str} {cs : Scope} {a : Addr} {ccd : Value} {cl : List (Str × Addr)} {outer : List Env} {A₀ : Around} {base h₀ : Heap} {L : Addr} {m : Str → Option Value} {s : Shared} {Q E : Value → Shared → Prop} {news : List (Addr × Obj)}
local macro_rules | `(tactic| k_steps) => `(tactic| repeat' (first | (k_unfold; (try dsimp only)) | (k_end; wrow_close) | (walk1; (all_goals try dsimp only)) | (dsimp only; walk1) | (leave1; walk_say "STEP leave1"; try dsimp only) | fail "no step"))
local macro_rules | `(tactic| walk_at "pyIter ref") => `(tactic| refine mk_in ?_)
local macro_rules | `(tactic| walk_at "subscriptTail Name Slice ref ref") => `(tactic| refine mk_in ?_)
local macro_rules | `(tactic| walk_at "call type:bytes") => `(tactic| refine mk_in ?_)
local macro_rules | `(tactic| walk_at "InvEndN") => `(tactic| refine mk_in ?_)
theorem with_led1 {h₀ h : Heap} {L x : Addr} {o : Obj} {r : List (Addr × Obj)} {G : Prop} (_N : News h₀ L h ((x, o) :: r)) (k : ∀ y, y = x → G) : G := k x rfl
local macro_rules | `(tactic| k_all) => `(tactic| with_reducible assumption)
local macro_rules | `(tactic| size_fits) => `(tactic| with_reducible assumption)
theorem sub_in {x : Addr × Obj} {r own : List (Addr × Obj)} : ∀ p ∈ x :: r, p ∈ x :: (r ++ own) := fun p hp => by
  rcases List.mem_cons.mp hp with e | hp
  · exact e ▸ List.Mem.head _
  · exact List.Mem.tail _ (List.mem_append_left _ hp)
theorem sub_own {x : Addr × Obj} {r own : List (Addr × Obj)} : ∀ p ∈ own, p ∈ x :: (r ++ own) := fun p hp => List.Mem.tail _ (List.mem_append_right _ hp)
theorem bInts_of : ∀ {ks : List Int}, (∀ k ∈ ks, 0 ≤ k ∧ k < 256) → KBw.bInts (ks.map fun n => n.toNat.toUInt8).toArray = ks := by
  intro ks hb
  unfold KBw.bInts
  simp only [List.map_map]
  conv => rhs; rw [← List.map_id ks]
  refine List.map_congr_left fun k hk => ?_
  exact byte_back (hb k hk).1 (hb k hk).2
structure FoS where
  vs : List Value
  n : Nat
  r : Int
  t : Tok
set_option maxHeartbeats 400000 in
theorem fo_ok
    (B : Below A₀ base outer h₀) (F : Fr h₀ L s.heap m) (X : (Mine.hd.heap_39 w.params).In h₀) (N : News h₀ L s.heap news) (T : Top Mine.hd.view_39 loose mean mg mb h₀) (hk : cs.kind = .function) (hd : dp + 1 < recursionLimit) (hu : un + 200 < cLine)
    {n wd : Int} {t t2 : Tok} {ks : List Int} (hb : ∀ k ∈ ks, 0 ≤ k ∧ k < 256) (hl : ks.length ≤ 16) (hn : n = num ks) (hw : wd = (ks.length : Int))
    (ret : ∀ b t h' tk', KBw.bInts b = ks → Fr h₀ L h' m → News h₀ L h' news → Q (.bytes b t) { s with heap := h', toks := tk' }) :
    wpAny (model PySem.Challenge.pw_og0122_01 w) (ktrTop dp un gd cn cs L a ccd cl outer) (call (.ref 97) [.int n t, .int wd t2]) Q E s := by
  subst hn hw
  w_top off
  refine wpAny_call ?_
  k_dflt cell_enter
  k_steps
  refine Mk.mk ?_
  (rename Fr _ _ _ _ => lF'); (rename News _ _ _ _ => lN'); (rename IsRange _ _ _ _ _ _ _ _ => rgX)
  refine with_led1 lN' ?_; intro l' hl'; subst hl'
  (refine' kst_range (σ := FoS) (fun c => (l', listOf c.vs.toArray c.n) :: news) (fun c => [(Str.ofString "rest", .int c.r c.t)]) (fun c => IntsAre c.vs (ks.drop (ks.length - c.vs.length)).reverse) [] (fun pre c => c.vs.length = pre.length ∧ c.r = num (ks.take (ks.length - pre.length))) ⟨[], 0, num ks, t⟩ ?ka rgX (small_one (by omega) (by omega) (by omega) (by omega)) (rangeSize_nat _ _) lF' ?kn ?kf ?kk ?kp ?kt ?kd)
  case ka => rfl
  case kn => exact lN'
  case kf => (simp; constructor)
  case kk => kst_all
  case kp => simp
  case kt =>
    clear lF' lN' rgX
    intro c pre k tk u h tk' own hk hlt off hf hp F' N'
    (try dsimp only at N'); (try dsimp only [kstB] at F'); (try dsimp only at off); (try simp only [List.cons_append] at N'); (try simp only [List.map_cons] at off)
    have lN1 : ∀ p ∈ news, p.1 < l' := by assumption
    have hz : c.vs.toArray.size ≤ sizeLine := by rw [PySem.sizeLine_eq, List.size_toArray]; omega
    have hall : ∀ p ∈ news ++ own, p.1 ≠ l' := List.forall_mem_append.mpr ⟨fun p hp => Nat.ne_of_lt (lN1 p hp), fun p hp => off p hp _ (List.Mem.head _)⟩
    k_steps
    refine Mk.mk ?_
    rename News _ _ _ _ => nE'
    simp only [List.push_toArray] at nE'
    have hstep := fun t => fo_step (t := t) hb hp.1 hp.2 (by omega) hf
    have hlen : (pre ++ [k]).length = pre.length + 1 := by simp
    refine kst_end (⟨c.vs ++ [.int (c.r.fmod 256) _], c.n + 1, c.r.fdiv 256, _⟩ : FoS) (by assumption) nE' sub_in sub_own rfl (hstep _).1 (by kst_all) (by kst_same) ?g
    dsimp only
    rw [hlen]
    exact ⟨(hstep _).2.1, (hstep 0).2.2⟩
  case kd =>
    clear lF' lN' rgX
    intro c u h tk' hf hp F' N'
    obtain ⟨vs, n0, r0, t0⟩ := c
    (try dsimp only at N'); (try dsimp only [kstB] at F'); dsimp only at hf hp
    rw [rangeKs_length, show ((ks.length : Int) - 0).toNat = ks.length by omega, Nat.sub_self, List.take_zero] at hp
    rw [hp.1, Nat.sub_self, List.drop_zero] at hf
    have h0 : r0 = 0 := hp.2
    subst h0
    k_steps
    refine Mk.mk ?_
    have hb' : ∀ k ∈ ks.reverse.reverse, 0 ≤ k ∧ k < 256 := by rw [List.reverse_reverse]; exact hb
    have hlen : vs.length = ks.length := by rw [hp.1]
    refine krv_ints (s := ⟨_, _, _, _, _⟩) (by assumption) N' ⟨_, (N' _ (List.Mem.head _)).1, rfl, n0, rfl⟩ (IsPart.int _ _) hf ?_ (by with_unfolding_all rfl) (fun _ => by with_unfolding_all rfl) (by rw [PySem.sizeLine_eq, List.size_toArray]; omega)
    intro D ws h2 F2 N2 l2 hI2 hC2
    (try dsimp only)
    have hws : ws.length = ks.length := by have e := hI2.length; simp at e; omega
    clear N' F'
    k_steps
    refine Mk.mk ?_
    refine bytes_K (by assumption) (by assumption) ⟨_, (N2 _ (List.Mem.head _)).1, rfl, 0, rfl⟩ hI2 hb' (by rw [PySem.sizeLine_eq]; omega) rfl ?_
    intro h3 t3 k3 F3 N3 hB3
    rw [List.reverse_reverse]
    (try dsimp only)
    k_steps
    exact ret _ _ _ _ (bInts_of hb) (by assumption) (news_tail (news_tail (by assumption)))
end
end
section
section
variable {w : World} {loose : List Str} {mean : ExcName → Option Value} {mg mb : Str → Option Value} {dp un : Nat} {gd : Option (List Code)} {cn : Str} {cs : Scope} {a : Addr} {ccd : Value} {cl : List (Str × Addr)} {outer : List Env} {A₀ : Around} {base h₀ : Heap} {L : Addr} {m : Str → Option Value} {s : Shared} {Q E : Value → Shared → Prop} {news : List (Addr × Obj)}
theorem num_nonneg {ks : List Int} (hb : ∀ k ∈ ks, 0 ≤ k ∧ k < 256) : 0 ≤ num ks := by
  have key : ∀ (l : List Int) (x : Int), 0 ≤ x → (∀ k ∈ l, 0 ≤ k ∧ k < 256) → 0 ≤ l.foldl (fun t c => 256 * t + c) x := by
    intro l
    induction l with
    | nil => intro x hx _; exact hx
    | cons k r ih =>
      intro x hx h
      have hk := h k (.head _)
      exact ih _ (show 0 ≤ 256 * x + k by omega) fun y hy => h y (.tail _ hy)
  exact key ks 0 (by omega) hb
def Lead (ks : List Int) : Prop := ∀ k r, ks = k :: r → 0 < k
theorem num_pos {ks : List Int} (hb : ∀ k ∈ ks, 0 ≤ k ∧ k < 256) (hz : Lead ks) {i : Nat} (h0 : 0 < i) (h1 : i ≤ ks.length) : 0 < num (ks.take i) := by
  cases ks with
  | nil => simp at h1; omega
  | cons k r =>
    obtain ⟨j, rfl⟩ : ∃ j, i = j + 1 := ⟨i - 1, by omega⟩
    rw [List.take_succ_cons, num_cons]
    have hk := hz k r rfl
    have hr : 0 ≤ num (r.take j) := num_nonneg fun y hy => hb y (.tail _ (List.mem_of_mem_take hy))
    have hp : (0 : Int) < 256 ^ (r.take j).length := Int.pow_pos (by decide)
    exact Int.add_pos_of_pos_of_nonneg (Int.mul_pos hk hp) hr
structure WdS where
  x : Int
  tx : Tok
  j : Nat
  tj : Tok
local macro_rules | `(tactic| k_steps) => `(tactic| repeat' (first | (k_unfold; (try dsimp only)) | (k_end; wrow_close) | (walk1; (all_goals try dsimp only)) | (dsimp only; walk1) | (leave1; walk_say "STEP leave1"; try dsimp only) | fail "no step"))
local macro_rules | `(tactic| walk_at "exec While Compare cons nil") => `(tactic| refine mk_in ?_)
local macro_rules | `(tactic| walk_at "KswEnd") => `(tactic| refine mk_in ?_)
set_option maxHeartbeats 400000 in
theorem width_ok
    (B : Below A₀ base outer h₀) (F : Fr h₀ L s.heap m) (X : (Mine.hd.heap_39 w.params).In h₀) (N : News h₀ L s.heap news) (T : Top Mine.hd.view_39 loose mean mg mb h₀) (hk : cs.kind = .function) (hd : dp + 1 < recursionLimit) (hu : un + 200 < cLine)
    {n : Int} {t : Tok} {ks : List Int} (hb : ∀ k ∈ ks, 0 ≤ k ∧ k < 256) (hz : Lead ks) (hn : n = num ks)
    (ret : ∀ t h' tk', Fr h₀ L h' m → News h₀ L h' news → Q (.int (ks.length : Int) t) { s with heap := h', toks := tk' }) :
    wpAny (model PySem.Challenge.pw_og0122_01 w) (ktrTop dp un gd cn cs L a ccd cl outer) (call (.ref 104) [.int n t]) Q E s := by
  subst hn
  w_top off
  refine wpAny_call ?_
  k_dflt cell_enter
  k_steps
  refine Mk.mk ?_
  (rename Fr _ _ _ _ => lF'); (rename News _ _ _ _ => lN')
  (refine' ksw_while (σ := WdS) (fun c => news) (fun c => [(Str.ofString "width", .int (c.j : Int) c.tj), (Str.ofString "number", .int c.x c.tx)]) (fun _ => True) [] (fun c => c.j ≤ ks.length ∧ c.x = num (ks.take (ks.length - c.j))) (fun c => ks.length - c.j) ⟨num ks, t, 0, _⟩ lF' lN' trivial ?kk ?kp ?kt ?ke)
  case kk => kst_all
  case kp => simp
  case ke => passes_own
  case kt =>
    clear lF' lN'
    intro c u h tk' _ hp F' N'
    obtain ⟨x0, tx0, j0, tj0⟩ := c
    dsimp only at hp
    (try dsimp only at N'); (try dsimp only [kstB] at F')
    have hx0 := num_pos hb hz (i := ks.length - j0)
    rw [← hp.2] at hx0
    have hx1 : j0 = ks.length → x0 = 0 := by
      intro e
      rw [hp.2, e, Nat.sub_self]
      rfl
    k_steps
    · refine Mk.mk ?_
      (rename News _ _ _ _ => nE')
      have hj : j0 ≠ ks.length := by
        intro e
        have := hx1 e
        omega
      have hd1 := fo_div hb (j := j0) (by omega)
      refine' ksw_end (⟨x0.fdiv 256, _, j0 + 1, _⟩ : WdS) ?ka nE' ?kb ?kc ?kd ?kf ?kg ?kh
      case ka => assumption
      case kb => exact fun p hp => hp
      case kc => trivial
      case kd => kst_all
      case kf => ksw_same
      case kg => exact ⟨by dsimp only; omega, by dsimp only; rw [hp.2, hd1]⟩
      case kh => dsimp only; omega
    · have hj : j0 = ks.length := by omega
      subst hj
      exact ret _ _ _ (by assumption) (by assumption)
end
end
section
local macro_rules | `(tactic| walk_at "no such key") => `(tactic| fail)
local macro_rules | `(tactic| walk_at "no such key") => `(tactic| fail)
local macro_rules | `(tactic| walk_at "no such key") => `(tactic| fail)
section
variable {w : World} {loose : List Str} {mean : ExcName → Option Value} {mg mb : Str → Option Value} {dp un : Nat} {gd : Option (List Code)} {cn : Str} {cs : Scope} {a : Addr} {ccd : Value} {cl : List (Str × Addr)} {outer : List Env} {A₀ : Around} {base h₀ : Heap} {L : Addr} {m : Str → Option Value} {s : Shared} {Q E : Value → Shared → Prop} {news : List (Addr × Obj)}
def wayStr (i : Int) : Str := if i = 0 then Str.ofString "free" else if i = 1 then Str.ofString "used" else Str.ofString "packed"
abbrev entryDict (P : Params) (u1 u2 u3 v1 v2 v3 : Tok) (W : Str) (one two : Int) : Obj := dictOf [⟨PyData.keyHash P (Str.ofString "way"), .str (Str.ofString "way") u1, .str W v1⟩, ⟨PyData.keyHash P (Str.ofString "one"), .str (Str.ofString "one") u2, .int one v2⟩, ⟨PyData.keyHash P (Str.ofString "two"), .str (Str.ofString "two") u3, .int two v3⟩] 3
theorem ways_item {A : Around} {value slice : Expr} {v : Int} {u : Tok} (F : Fr h₀ L s.heap m) (X : (Mine.hd.heap_39 w.params).In h₀) (h0 : 0 ≤ v) (h1 : v < 3) (h : ∀ t, Q (.str (wayStr v) t) s)
    (hs : ∀ v, subscripted slice false (.ref 83) (.int v u) = operate [.ref 83, .int v u] (getItem (.ref 83) (.int v u)) := by intro _; with_unfolding_all rfl) :
    wpAny (model PySem.Challenge.pw_og0122_01 w) A (subscriptTail value slice (.ref 83) (.int v u)) Q E s := by
  rcases (by omega : v = 0 ∨ v = 1 ∨ v = 2) with e | e | e <;> subst e
  all_goals (refine' topTup_K F X ?l (by decide) (by decide) ?c ?d (h _) (hs _); (case l => k_dflt k_is); (case c => rfl); (case d => rfl))
theorem allNe_of {d : Addr} {l : List (Addr × Obj)} (h : ∀ p ∈ l, p.1 < d) : ∀ p ∈ l, p.1 ≠ d := fun p hp => Nat.ne_of_lt (h p hp)
theorem clip_nat {n k : Nat} (h : k ≤ n) : clipAt n (k : Int) = k := by rw [clipAt_nat, Nat.min_eq_left h]
theorem clip_nat2 {n k j : Nat} (h : k + j ≤ n) : clipAt n ((k : Int) + (j : Int)) = k + j := by rw [← Int.natCast_add, clipAt_nat, Nat.min_eq_left h]
local macro_rules | `(tactic| k_all) => `(tactic| first | with_reducible assumption | exact allNe_of (by assumption))
local macro_rules | `(tactic| k_steps) => `(tactic| repeat' (first | (k_unfold; (try dsimp only)) | (k_end; wrow_close) | (walk1; (all_goals try dsimp only)) | (dsimp only; walk1) | (leave1; walk_say "STEP leave1"; try dsimp only) | fail "no step"))
local macro_rules | `(tactic| k_room) => `(tactic| ktr_room)
local macro_rules | `(tactic| k_units) => `(tactic| ktr_units)
local macro_rules | `(tactic| walk_at "subscriptTail") => `(tactic| (k_here; (with_reducible show wpAny _ _ (subscriptTail _ _ (Value.ref 83) (Value.int (num _) _)) _ _ _); refine mk_in ?_))
local macro_rules | `(tactic| walk_at "call ref") => `(tactic| (k_here; k_dflt (refine' field_ok ?k1 ?k2 ?k3 ?k4 ?k5 ?kK ?kd ?ku ?kb ?_; (case k1 => k_asm); (case k2 => k_asm); (case k3 => k_asm); (case k4 => k_asm); (case k5 => k_asm); (case kK => exact rfl); (case kd => ktr_room); (case ku => ktr_units); (case kb => kba_ints)); intro t9 h9 tk9 F9 N9))
set_option maxHeartbeats 1000000 in
theorem row_ok {wl : Addr} {a0 a1 : Nat} {w2 : Int} {t0 t1 t2 : Tok} {nw : Nat}
    (B : Below A₀ base outer h₀) (F : Fr h₀ L s.heap m) (X : (Mine.hd.heap_39 w.params).In h₀) (N : News h₀ L s.heap ((wl, listOf #[.int (a0 : Int) t0, .int (a1 : Int) t1, .int w2 t2] nw) :: news)) (T : Top Mine.hd.view_39 loose mean mg mb h₀) (hk : cs.kind = .function) (hd : dp + 3 < recursionLimit) (hu : un + 300 < cLine)
    {b : Array UInt8} {t : Tok} {ks : List Int} (hb : KBw.bInts b = ks) (hl : ks.length ≤ 16) (h2 : a0 + a1 ≤ ks.length)
    {wy : Int} (hwy : wy = if 0 < a0 then num (ks.take a0) else 1)
    (retN : ∀ h' tk', 3 ≤ wy → Fr h₀ L h' m → News h₀ L h' ((wl, listOf #[.int (a0 : Int) t0, .int (a1 : Int) t1, .int w2 t2] nw) :: news) → Q .none { s with heap := h', toks := tk' })
    (retE : ∀ (x dx : Addr) (W : Str) (one two : Int) (u1 u2 u3 v1 v2 v3 : Tok) h' tk', 0 ≤ wy → wy < 3 → W = wayStr wy → one = num ((ks.drop a0).take a1) → two = num (ks.drop (a0 + a1)) → Fr h₀ L h' m →
      News h₀ L h' ((x, instObj 38 dx) :: (dx, entryDict w.params u1 u2 u3 v1 v2 v3 W one two) :: (wl, listOf #[.int (a0 : Int) t0, .int (a1 : Int) t1, .int w2 t2] nw) :: news) → @LT.lt Nat _ dx x → @LT.lt Nat _ wl dx → (∀ p ∈ news, p.1 < dx) → Q (.ref x) { s with heap := h', toks := tk' }) :
    wpAny (model PySem.Challenge.pw_og0122_01 w) (ktrTop dp un gd cn cs L a ccd cl outer) (call (.ref 111) [.bytes b t, .ref wl]) Q E s := by
  w_top off
  refine wpAny_call ?_
  k_dflt cell_enter
  k_steps
  · rename (0 < List.getD _ _ _) => c0
    rename (3 ≤ _) => c1
    have c0' : 0 < (a0 : Int) := c0
    have c1' : 3 ≤ num (ks.take (clipAt ks.length (a0 : Int))) := c1
    rw [clip_nat (by omega)] at c1'
    have e : wy = num (ks.take a0) := by rw [hwy, if_pos (by omega)]
    exact retN _ _ (by omega) (by assumption) (by assumption)
  · refine Mk.mk ?_
    rename (0 < List.getD _ _ _) => c0
    rename (¬ 3 ≤ _) => c1
    have c0' : 0 < (a0 : Int) := c0
    have c1' : ¬ 3 ≤ num (ks.take (clipAt ks.length (a0 : Int))) := c1
    have hby : ∀ k ∈ ks.take a0, 0 ≤ k ∧ k < 256 := fun k hk => KBw.ints_in (b := b) (by rw [hb]; exact List.mem_of_mem_take hk)
    have hnn := num_nonneg hby
    have ec : clipAt ks.length (List.getD [(a0 : Int), (a1 : Int), w2] (Int.toNat 0) 0) = a0 := clip_nat (by omega)
    rw [clip_nat (by omega)] at c1'
    have e : wy = num (ks.take a0) := by rw [hwy, if_pos (by omega)]
    refine ways_item (by assumption) (by assumption) (by rw [ec]; exact hnn) (by rw [ec]; omega) ?_
    rw [ec]
    intro t3
    k_steps
    have e2 : num (List.take (clipAt ks.length ((a0 : Int) + (a1 : Int)) - clipAt ks.length (a0 : Int)) (List.drop (clipAt ks.length (a0 : Int)) ks)) = num ((ks.drop a0).take a1) := by
      rw [clip_nat2 h2, clip_nat (by omega), Nat.add_sub_cancel_left]
    have e3 : num (List.take (ks.length - clipAt ks.length ((a0 : Int) + (a1 : Int))) (List.drop (clipAt ks.length ((a0 : Int) + (a1 : Int))) ks)) = num (ks.drop (a0 + a1)) := by
      rw [clip_nat2 h2, List.take_of_length_le (by rw [List.length_drop]; omega)]
    refine' retE _ _ _ _ _ _ _ _ _ _ _ _ _ ?c0 ?c1 ?cW ?c2 ?c3 ?cF ?cN ?cl ?cl2 ?cl3
    case cN => assumption
    case cF => assumption
    case c0 => omega
    case c1 => omega
    case cW => first | (rw [e]; done) | (rw [e]; rfl)
    case c2 => exact e2
    case c3 => exact e3
    case cl => assumption
    case cl2 => ((rename (_ < _ ∧ AllLt _ _) => l1); exact l1.1)
    case cl3 => ((rename (_ < _ ∧ AllLt _ _) => l1); exact kst_ltOf l1.2)
  · rename (¬ 0 < List.getD _ _ _) => c0
    have c0' : ¬ 0 < (a0 : Int) := c0
    have e : wy = 1 := by rw [hwy, if_neg (by omega)]
    have e2 : num (List.take (clipAt ks.length ((a0 : Int) + (a1 : Int)) - clipAt ks.length (a0 : Int)) (List.drop (clipAt ks.length (a0 : Int)) ks)) = num ((ks.drop a0).take a1) := by
      rw [clip_nat2 h2, clip_nat (by omega), Nat.add_sub_cancel_left]
    have e3 : num (List.take (ks.length - clipAt ks.length ((a0 : Int) + (a1 : Int))) (List.drop (clipAt ks.length ((a0 : Int) + (a1 : Int))) ks)) = num (ks.drop (a0 + a1)) := by
      rw [clip_nat2 h2, List.take_of_length_le (by rw [List.length_drop]; omega)]
    refine' retE _ _ _ _ _ _ _ _ _ _ _ _ _ ?c0 ?c1 ?cW ?c2 ?c3 ?cF ?cN ?cl ?cl2 ?cl3
    case cN => assumption
    case cF => assumption
    case c0 => omega
    case c1 => omega
    case cW => first | (rw [e]; done) | (rw [e]; rfl)
    case c2 => exact e2
    case c3 => exact e3
    case cl => assumption
    case cl2 => ((rename (_ < _ ∧ AllLt _ _) => l1); exact l1.1)
    case cl3 => ((rename (_ < _ ∧ AllLt _ _) => l1); exact kst_ltOf l1.2)
end
end
section
local macro_rules | `(tactic| walk_at "no such key") => `(tactic| fail)
local macro_rules | `(tactic| walk_at "no such key") => `(tactic| fail)
local macro_rules | `(tactic| walk_at "no such key") => `(tactic| fail)
local macro_rules | `(tactic| walk_at "no such key") => `(tactic| fail)
section
variable {w : World} {loose : List Str} {mean : ExcName → Option Value} {mg mb : Str → Option Value} {dp un : Nat} {gd : Option (List Code)} {cn : Str} {cs : Scope} {a : Addr} {ccd : Value} {cl : List (Str × Addr)} {outer : List Env} {A₀ : Around} {base h₀ : Heap} {L : Addr} {m : Str → Option Value} {s : Shared} {Q E : Value → Shared → Prop} {news : List (Addr × Obj)}
local macro_rules | `(tactic| k_steps) => `(tactic| repeat' (first | (k_unfold; (try dsimp only)) | (k_end; wrow_close) | (walk1; (all_goals try dsimp only)) | (dsimp only; walk1) | (leave1; walk_say "STEP leave1"; try dsimp only) | fail "no step"))
local macro_rules | `(tactic| k_room) => `(tactic| ktr_room)
local macro_rules | `(tactic| k_units) => `(tactic| ktr_units)
local macro_rules | `(tactic| walk_at "call ref") => `(tactic| refine mk_in ?_)
local macro_rules | `(tactic| walk_at "call builtin:len") => `(tactic| refine mk_in ?_)
local macro_rules | `(tactic| walk_at "subscriptTail") => `(tactic| refine mk_in ?_)
theorem getD_mem {xs : List Int} {i : Nat} (h : i < xs.length) : xs.getD i 0 ∈ xs := by
  rw [List.getD_eq_getElem?_getD, List.getElem?_eq_getElem h]
  exact List.getElem_mem h
set_option maxHeartbeats 1000000 in
theorem pick_in {p q l : Addr} {k r : Int} {t1 t2 : Tok} {n1 n2 nl : Nat} {vs us : List Value} {ns xs : List Int} {rest : List (Addr × Obj)}
    (B : Below A₀ base outer h₀) (F : Fr h₀ L s.heap m) (X : (Mine.hd.heap_39 w.params).In h₀) (T : Top Mine.hd.view_39 loose mean mg mb h₀) (hk : cs.kind = .function) (hd : dp + 3 < recursionLimit) (hu : un + 300 < cLine)
    (N : News h₀ L s.heap ((p, listOf #[.ref q, .int k t1, .int r t2] n1) :: (q, listOf vs.toArray n2) :: (l, listOf us.toArray nl) :: rest))
    (hrp : ∀ z ∈ (l, listOf us.toArray nl) :: rest, z.1 ≠ p) (hrq : ∀ z ∈ (l, listOf us.toArray nl) :: rest, z.1 ≠ q) (hpq : @Ne Nat p q)
    (hi : IntsAre vs ns) (hl : ns.length ≤ 63) (hj : IntsAre us xs) (hx0 : 0 < xs.length) (hx1 : xs.length < 1000)
    (ret : ∀ (v k' r' : Int) (t u1 u2 : Tok) (n1' n2' : Nat) (vs' : List Value) (ns' : List Int) h' tk', v ∈ xs → IntsAre vs' ns' → ns'.length ≤ 63 →
      Fr h₀ L h' m → News h₀ L h' ((p, listOf #[.ref q, .int k' u1, .int r' u2] n1') :: (q, listOf vs'.toArray n2') :: (l, listOf us.toArray nl) :: rest) → Q (.int v t) { s with heap := h', toks := tk' }) :
    wpAny (model PySem.Challenge.pw_og0122_01 w) (ktrTop dp un gd cn cs L a ccd cl outer) (call (.ref 130) [.ref p, .ref l]) Q E s := by
  have hlen := hj.length
  w_top off
  refine wpAny_call ?_
  k_dflt cell_enter
  k_steps
  refine Mk.mk ?_
  (rename News _ _ _ _ => N0)
  refine len_list (items := us.toArray) ⟨_, (N0 _ (List.Mem.tail _ (List.Mem.tail _ (List.Mem.head _)))).1, rfl, nl, rfl⟩ (by rw [List.size_toArray]; omega) ?_
  k_steps
  refine Mk.mk ?_
  refine' draw_in ?k1 ?k2 ?k3 ?k5 ?kK ?kd ?ku N0 hrp hrq hpq hi hl ?km ?km2 ?_
  case k1 => k_asm
  case k2 => k_asm
  case k3 => k_asm
  case k5 => k_asm
  case kK => exact rfl
  case kd => ktr_room
  case ku => ktr_units
  case km => (rw [List.size_toArray]; omega)
  case km2 => (rw [List.size_toArray]; omega)
  intro v k' r' t9 u1 u2 n1' n2' vs' ns' h9 tk9 hv0 hv1 hi' hl' F9 N9
  rw [List.size_toArray] at hv1
  dsimp only
  k_steps
  refine Mk.mk ?_
  refine ksa_sub (D := l) (n := nl) (vs := us) (ns := xs) N9 (List.Mem.tail _ (List.Mem.tail _ (List.Mem.head _))) hj hv0 (by omega) (by omega) ?_ (by with_unfolding_all rfl)
  intro t3
  k_steps
  exact ret _ k' r' _ u1 u2 n1' n2' vs' ns' _ _ (getD_mem (by omega)) hi' hl' (by assumption) (by assumption)
end
end
section
section
variable {w : World} {loose : List Str} {mean : ExcName → Option Value} {mg mb : Str → Option Value} {dp un : Nat} {gd : Option (List Code)} {cn : Str} {cs : Scope} {a : Addr} {ccd : Value} {cl : List (Str × Addr)} {outer : List Env} {A₀ : Around} {base h₀ : Heap} {L : Addr} {m : Str → Option Value} {s : Shared} {Q E : Value → Shared → Prop} {news : List (Addr × Obj)}
structure Two (p q : Addr) (op oq : Obj) (news : List (Addr × Obj)) (g : Obj → Obj → List (Addr × Obj)) : Prop where
  mp : (p, op) ∈ news
  mq : (q, oq) ∈ news
  out : ∀ op' oq' z, z ∈ g op' oq' → z = (p, op') ∨ z = (q, oq') ∨ (z ∈ news ∧ z.1 ≠ p ∧ z.1 ≠ q)
theorem two_of {p q : Addr} {op oq : Obj} {g1 : Obj → List (Addr × Obj)} {g2 : Obj → Obj → List (Addr × Obj)} (U1 : UpdF p op news g1) (U2 : ∀ o', UpdF q oq (g1 o') (g2 o')) : Two p q op oq news g2 := by
  obtain ⟨pre, post, hn, hg, hpre, hpost⟩ := U1.split
  refine ⟨by rw [hn]; simp, ?_, ?_⟩
  · obtain ⟨pre2, post2, hn2, _⟩ := (U2 op).split
    rw [hn, ← hg op, hn2]
    simp
  · intro op' oq' z hz
    obtain ⟨pre2, post2, hn2, hg2, hpre2, hpost2⟩ := (U2 op').split
    rw [hg2] at hz
    have old : z ∈ g1 op' → z.1 ≠ q → z = (p, op') ∨ z = (q, oq') ∨ (z ∈ news ∧ z.1 ≠ p ∧ z.1 ≠ q) := by
      intro h1 h2
      rw [hg] at h1
      rcases List.mem_append.mp h1 with h1 | h1
      · exact .inr (.inr ⟨by rw [hn]; exact List.mem_append_left _ h1, hpre _ h1, h2⟩)
      · rcases List.mem_cons.mp h1 with h1 | h1
        · exact .inl h1
        · exact .inr (.inr ⟨by rw [hn]; exact List.mem_append_right _ (List.Mem.tail _ h1), hpost _ h1, h2⟩)
    rcases List.mem_append.mp hz with h1 | h1
    · exact old (by rw [hn2]; exact List.mem_append_left _ h1) (hpre2 _ h1)
    · rcases List.mem_cons.mp h1 with h1 | h1
      · exact .inr (.inl h1)
      · exact old (by rw [hn2]; exact List.mem_append_right _ (List.Mem.tail _ h1)) (hpost2 _ h1)
def offTwo (p q : Addr) (news : List (Addr × Obj)) : List (Addr × Obj) := news.filter fun z => decide (z.1 ≠ p ∧ z.1 ≠ q)
theorem offTwo_mem {p q : Addr} {z : Addr × Obj} : z ∈ offTwo p q news ↔ z ∈ news ∧ z.1 ≠ p ∧ z.1 ≠ q := by simp [offTwo]
theorem Two.inn {p q : Addr} {op oq : Obj} {h : Heap} {g : Obj → Obj → List (Addr × Obj)} (W : Two p q op oq news g) (N : News h₀ L h news) : News h₀ L h ((p, op) :: (q, oq) :: offTwo p q news) := by
  intro z hz
  rcases List.mem_cons.mp hz with e | hz
  · subst e; exact N _ W.mp
  · rcases List.mem_cons.mp hz with e | hz
    · subst e; exact N _ W.mq
    · exact N _ (offTwo_mem.mp hz).1
theorem Two.back {p q : Addr} {op oq op' oq' : Obj} {h : Heap} {g : Obj → Obj → List (Addr × Obj)} (W : Two p q op oq news g) (N : News h₀ L h ((p, op') :: (q, oq') :: offTwo p q news)) : News h₀ L h (g op' oq') := by
  intro z hz
  rcases W.out _ _ _ hz with e | e | e
  · subst e; exact N _ (.head _)
  · subst e; exact N _ (.tail _ (.head _))
  · exact N _ (.tail _ (.tail _ (offTwo_mem.mpr e)))
theorem draw_ok (B : Below A₀ base outer h₀) (F : Fr h₀ L s.heap m) (X : (Mine.hd.heap_39 w.params).In h₀) (T : Top Mine.hd.view_39 loose mean mg mb h₀) (hk : cs.kind = .function) (hd : dp + 1 < recursionLimit) (hu : un + 200 < cLine)
    {p q : Addr} {k r many : Int} {t1 t2 tm : Tok} {n1 n2 : Nat} {vs : List Value} {ns : List Int} {g : Obj → Obj → List (Addr × Obj)}
    (N : News h₀ L s.heap news) (W : Two p q (listOf #[.ref q, .int k t1, .int r t2] n1) (listOf vs.toArray n2) news g) (hpq : @Ne Nat p q)
    (hi : IntsAre vs ns) (hl : ns.length ≤ 63) (hm : 0 < many) (hm2 : many < 1000)
    (ret : ∀ (v k' r' : Int) (t u1 u2 : Tok) (n1' n2' : Nat) (vs' : List Value) (ns' : List Int) h' tk', 0 ≤ v → v < many → IntsAre vs' ns' → ns'.length ≤ 63 →
      Fr h₀ L h' m → News h₀ L h' (g (listOf #[.ref q, .int k' u1, .int r' u2] n1') (listOf vs'.toArray n2')) → Q (.int v t) { s with heap := h', toks := tk' }) :
    wpAny (model PySem.Challenge.pw_og0122_01 w) (ktrTop dp un gd cn cs L a ccd cl outer) (call (.ref 123) [.ref p, .int many tm]) Q E s :=
  draw_in B F X T hk hd hu (W.inn N) (fun z hz => (offTwo_mem.mp hz).2.1) (fun z hz => (offTwo_mem.mp hz).2.2) hpq hi hl hm hm2
    fun v k' r' t u1 u2 n1' n2' vs' ns' h' tk' a1 a2 a3 a4 F' N' => ret v k' r' t u1 u2 n1' n2' vs' ns' h' tk' a1 a2 a3 a4 F' (W.back N')
theorem pick_ok {p q l : Addr} {k r : Int} {t1 t2 : Tok} {n1 n2 nl : Nat} {vs us : List Value} {ns xs : List Int} {g : Obj → Obj → List (Addr × Obj)}
    (B : Below A₀ base outer h₀) (F : Fr h₀ L s.heap m) (X : (Mine.hd.heap_39 w.params).In h₀) (T : Top Mine.hd.view_39 loose mean mg mb h₀) (hk : cs.kind = .function) (hd : dp + 3 < recursionLimit) (hu : un + 300 < cLine)
    (N : News h₀ L s.heap news) (W : Two p q (listOf #[.ref q, .int k t1, .int r t2] n1) (listOf vs.toArray n2) news g) (hpq : @Ne Nat p q)
    (hmem : (l, listOf us.toArray nl) ∈ news) (hlp : @Ne Nat l p) (hlq : @Ne Nat l q)
    (hi : IntsAre vs ns) (hl : ns.length ≤ 63) (hj : IntsAre us xs) (hx0 : 0 < xs.length) (hx1 : xs.length < 1000)
    (ret : ∀ (v k' r' : Int) (t u1 u2 : Tok) (n1' n2' : Nat) (vs' : List Value) (ns' : List Int) h' tk', v ∈ xs → IntsAre vs' ns' → ns'.length ≤ 63 →
      Fr h₀ L h' m → News h₀ L h' (g (listOf #[.ref q, .int k' u1, .int r' u2] n1') (listOf vs'.toArray n2')) → Q (.int v t) { s with heap := h', toks := tk' }) :
    wpAny (model PySem.Challenge.pw_og0122_01 w) (ktrTop dp un gd cn cs L a ccd cl outer) (call (.ref 130) [.ref p, .ref l]) Q E s := by
  have hall : ∀ z ∈ (l, listOf us.toArray nl) :: offTwo p q news, z ∈ offTwo p q news := by
    intro z hz
    rcases List.mem_cons.mp hz with e | hz
    · subst e; exact offTwo_mem.mpr ⟨hmem, hlp, hlq⟩
    · exact hz
  have N1 := W.inn N
  have N2 : News h₀ L s.heap ((p, listOf #[.ref q, .int k t1, .int r t2] n1) :: (q, listOf vs.toArray n2) :: (l, listOf us.toArray nl) :: offTwo p q news) := by
    intro z hz
    refine N1 z ?_
    rcases List.mem_cons.mp hz with e | hz
    · exact e ▸ .head _
    · rcases List.mem_cons.mp hz with e | hz
      · exact e ▸ .tail _ (.head _)
      · exact .tail _ (.tail _ (hall z hz))
  refine pick_in B F X T hk hd hu N2 (fun z hz => (offTwo_mem.mp (hall z hz)).2.1) (fun z hz => (offTwo_mem.mp (hall z hz)).2.2) hpq hi hl hj hx0 hx1 ?_
  intro v k' r' t u1 u2 n1' n2' vs' ns' h' tk' a1 a2 a3 F' N'
  refine ret v k' r' t u1 u2 n1' n2' vs' ns' h' tk' a1 a2 a3 F' (W.back fun z hz => N' z ?_)
  rcases List.mem_cons.mp hz with e | hz
  · exact e ▸ .head _
  · rcases List.mem_cons.mp hz with e | hz
    · exact e ▸ .tail _ (.head _)
    · exact .tail _ (.tail _ (.tail _ hz))
end
end
section
section
variable {w : World} {loose : List Str} {mean : ExcName → Option Value} {mg mb : Str → Option Value} {dp un : Nat} {gd : Option (List Code)} {cn : Str} {cs : Scope} {a : Addr} {ccd : Value} {cl : List (Str × Addr)} {outer : List Env} {A₀ : Around} {base h₀ : Heap} {L : Addr} {m : Str → Option Value} {s : Shared} {Q E : Value → Shared → Prop} {news : List (Addr × Obj)}
theorem rep1 {prog : Program} {A : Around} {l : Addr} {c x : Int} {t u : Tok} {n k : Nat} (F : Fr h₀ L s.heap m) (N : News h₀ L s.heap news) (hm : (l, listOf #[.int c t] n) ∈ news) (hx : x = (k : Int)) (hk : k ≤ 1000)
    (h : ∀ D vs h', Fr h₀ L h' m → News h₀ L h' ((D, listOf (List.toArray vs) 0) :: news) → (∀ p ∈ news, p.1 < D) → IntsAre vs (List.replicate k c) → Q (.ref D) { s with heap := h' }) :
    wpAny (model prog w) A (binaryOp .Mult (.ref l) (.int x u)) Q E s := by
  subst hx
  have e : (List.replicate (k : Int).toNat [c]).flatten = List.replicate k c := by rw [krep_flat, Int.toNat_natCast]
  refine KM.mul (vs := [.int c t]) (ns := [c]) F N ⟨_, (N _ hm).1, rfl, n, rfl⟩ (.cons _ _ .nil) (by omega) (by omega) (by simp; omega) fun D h' F' N' l1 hi _ _ _ _ _ => ?_
  rw [e] at hi
  exact h D _ h' F' N' l1 hi
theorem add_ll {prog : Program} {A : Around} {a b : Addr} {vs ws : List Value} {ns ms : List Int} {n1 n2 : Nat} (F : Fr h₀ L s.heap m) (N : News h₀ L s.heap news) (ha : (a, listOf vs.toArray n1) ∈ news) (hb : (b, listOf ws.toArray n2) ∈ news) (hi : IntsAre vs ns) (hj : IntsAre ws ms) (hz : ns.length + ms.length ≤ 1000)
    (h : ∀ D us h', Fr h₀ L h' m → News h₀ L h' ((D, listOf (List.toArray us) 0) :: news) → (∀ p ∈ news, p.1 < D) → IntsAre us (ns ++ ms) → Q (.ref D) { s with heap := h' }) :
    wpAny (model prog w) A (binaryOp .Add (.ref a) (.ref b)) Q E s :=
  kmk_add_ints F N ⟨_, (N _ ha).1, rfl, n1, rfl⟩ ⟨_, (N _ hb).1, rfl, n2, rfl⟩ hi hj h (by rw [PySem.sizeLine_eq]; omega)
theorem bytes_B {prog : Program} {A : Around} {l : Addr} {vs : List Value} {ns : List Int} {n : Nat} (F : Fr h₀ L s.heap m) (N : News h₀ L s.heap news) (hm : (l, listOf vs.toArray n) ∈ news) (hi : IntsAre vs ns) (hr : ∀ k ∈ ns, 0 ≤ k ∧ k < 256) (hz : ns.length ≤ 1000) (hh : A.handled = none)
    (h : ∀ b h' t k, Fr h₀ L h' m → News h₀ L h' news → KBw.bInts b = ns → Q (.bytes b t) { s with heap := h', toks := k }) : wpAny (model prog w) A (call (.type "bytes") [.ref l]) Q E s :=
  bytes_K F N ⟨_, (N _ hm).1, rfl, n, rfl⟩ hi hr (by rw [PySem.sizeLine_eq, hi.length]; omega) hh fun h' t k F' N' _ => h _ h' t k F' N' (bInts_of hr)
theorem bInts_add (b c : Array UInt8) : KBw.bInts (b ++ c) = KBw.bInts b ++ KBw.bInts c := by simp [KBw.bInts]
theorem bInts_inj {b c : Array UInt8} (h : KBw.bInts b = KBw.bInts c) : b = c := by
  unfold KBw.bInts at h
  have key : ∀ l r : List UInt8, (l.map fun c => (c.toNat : Int)) = (r.map fun c => (c.toNat : Int)) → l = r := by
    intro l
    induction l with
    | nil =>
      intro r h
      cases r with
      | nil => rfl
      | cons y r => cases h
    | cons x l ih =>
      intro r h
      cases r with
      | nil => cases h
      | cons y r =>
        simp only [List.map_cons, List.cons.injEq] at h
        have e : x.toNat = y.toNat := by omega
        rw [UInt8.toNat_inj.mp e, ih r h.2]
  exact Array.toList_inj.mp (key _ _ h)
theorem add_bb {prog : Program} {A : Around} {b c : Array UInt8} {t u : Tok} {ns ms : List Int} (hb : KBw.bInts b = ns) (hc : KBw.bInts c = ms) (hz : ns.length + ms.length ≤ 1000)
    (h : ∀ d t' k, KBw.bInts d = ns ++ ms → Q (.bytes d t') { s with toks := k }) : wpAny (model prog w) A (binaryOp .Add (.bytes b t) (.bytes c u)) Q E s := by
  subst hb hc
  rw [KBw.ints_length, KBw.ints_length] at hz
  exact KBy.add_bytes (by omega) fun t' k => h _ t' k (bInts_add b c)
section
variable {prog : Program} {A : Around} {env : Env} {elt : Expr} {x : Str} {scope : Scope} {S : List (Addr × Obj) → Prop} {P : Nat → Value → Prop} {Fin : List Value → List (Addr × Obj) → Prop} {σ : Type}
theorem comp_ind (Led : σ → List (Addr × Obj)) (Facts : σ → Prop) {n : Nat}
    (turn : ∀ (c : σ) v I oI C oC D m₂ ys h tk (E' : Value → Shared → Prop), Facts c → LCg.NsObj oC m₂ → m₂ x = some v → Fr h₀ L h m → News h₀ L h ((I, oI) :: (C, oC) :: (D, LCg.lst ys) :: Led c) → LCg.Off3 I C D (Led c) → ((@Ne Nat I C) ∧ (@Ne Nat I D) ∧ (@Ne Nat C D)) →
      wpAny (model prog w) A (eval elt (compEnvC scope cl C env)) (LCg.CompEnd h₀ L m { s with heap := h, toks := tk } I oI C oC D (LCg.lst ys) S (fun y news' => ∃ (c' : σ) (r : Int) (t' : Tok), news' = Led c' ∧ Facts c' ∧ y = .int r t' ∧ 0 ≤ r ∧ r < 256)) E' { s with heap := h, toks := tk })
    (fin : ∀ ys ns (c : σ), IntsAre ys ns → ns.length = n → (∀ k ∈ ns, 0 ≤ k ∧ k < 256) → Facts c → Fin ys (Led c)) (c₀ : σ) (h₀' : Facts c₀) :
    LCg.CompRest prog w A h₀ L m env elt x scope cl s S P Fin n 0 [] (Led c₀) := by
  have key : ∀ (j i : Nat) (ys : List Value) (ns : List Int) (c : σ), i + j = n → IntsAre ys ns → ns.length = i → (∀ k ∈ ns, 0 ≤ k ∧ k < 256) → Facts c → LCg.CompRest prog w A h₀ L m env elt x scope cl s S P Fin j i ys (Led c) := by
    intro j
    induction j with
    | zero => intro i ys ns c hi hy hl hr hf; exact LCg.CompRest.zero (fin ys ns c hy (by omega) hr hf)
    | succ j ih =>
      intro i ys ns c hi hy hl hr hf
      refine LCg.CompRest.succ ?_
      intro v I oI C oC D m₂ h tk E' _ hC hx F N off ne
      refine wpAny_mono (turn c v I oI C oC D m₂ ys h tk E' hf hC hx F N off ne) (fun y s₂ hq => ?_) fun _ _ e => e
      obtain ⟨h', tk', nw, e, F', N', off', hS, c', r, t', hn, hf', hy', hr0, hr1⟩ := hq
      subst hn hy'
      refine ⟨h', tk', _, e, F', N', off', hS, ih (i + 1) _ (ns ++ [r]) c' (by omega) (IntsAre.append hy (.cons r t' .nil)) (by simp; omega) ?_ hf'⟩
      intro k hk
      rcases List.mem_append.mp hk with hk | hk
      · exact hr k hk
      · rw [List.mem_singleton.mp hk]; exact ⟨hr0, hr1⟩
  exact key n 0 [] [] c₀ (by omega) .nil rfl (fun _ h => nomatch h) h₀'
end
end
end
section
local macro_rules | `(tactic| walk_at "no such key") => `(tactic| fail)
section
variable {w : World} {loose : List Str} {mean : ExcName → Option Value} {mg mb : Str → Option Value} {dp un : Nat} {gd : Option (List Code)} {cn : Str} {cs : Scope} {a : Addr} {ccd : Value} {cl : List (Str × Addr)} {outer : List Env} {A₀ : Around} {base h₀ : Heap} {L : Addr} {m : Str → Option Value} {s : Shared} {Q E : Value → Shared → Prop} {news : List (Addr × Obj)}
abbrev tup3 (W : Str) (a b : Int) (t1 t2 t3 : Tok) (n : Nat) : Obj := { cls := .type "tuple", data := .seq #[.str W t1, .int a t2, .int b t3] n }
theorem tup_ne {prog : Program} {A : Around} {r1 r2 : Addr} {W : Str} {x y : Int} {t1 t2 t3 u1 u2 u3 : Tok} {n1 n2 : Nat} (N : News h₀ L s.heap news) (h1 : (r1, tup3 W x y t1 t2 t3 n1) ∈ news) (h2 : (r2, tup3 W x y u1 u2 u3 n2) ∈ news) (hu : A.units + 64 < cLine)
    (hsh : PySem.SeqAt.shaped (.tuple [.str W, .int x, .int y]) = true) (h : Q (.bool false) s) : wpAny (model prog w) A (compareOp .NotEq (.ref r1) (.ref r2)) Q E s := by
  refine ne_dataH (da := .tuple [.str W, .int x, .int y]) (db := .tuple [.str W, .int x, .int y]) (Reads.tuple (N _ h1).1 rfl rfl (.cons (.str _ _) (.cons (.int _ _) (.cons (.int _ _) .nil)))) (Reads.tuple (N _ h2).1 rfl rfl (.cons (.str _ _) (.cons (.int _ _) (.cons (.int _ _) .nil)))) hsh hsh hu ?_
  have e : PyData.eqv (.tuple [.str W, .int x, .int y]) (.tuple [.str W, .int x, .int y]) = true := by simp [PyData.eqv, PyData.eqvAll]
  rw [e]
  exact h
theorem shaped_of {W : Str} (x y : Int) (h : PySem.PyData.strOk W = true) : PySem.SeqAt.shaped (.tuple [.str W, .int x, .int y]) = true := by
  simp [PySem.SeqAt.shaped, PyData.canLay0, PyData.canLayAll0, PyData.depth, PyData.depthAll, h]
theorem shaped_way (v x y : Int) : PySem.SeqAt.shaped (.tuple [.str (wayStr v), .int x, .int y]) = true := by
  refine shaped_of x y ?_
  unfold wayStr
  split
  · decide +kernel
  · split
    · decide +kernel
    · decide +kernel
theorem made_item {prog : Program} {A : Around} {value slice : Expr} {l : Addr} {v : Int} {u t1 t2 t3 : Tok} {n : Nat} (N : News h₀ L s.heap news) (hm : (l, listOf #[.str (Str.ofString "free") t1, .str (Str.ofString "used") t2, .str (Str.ofString "packed") t3] n) ∈ news) (h0 : 0 ≤ v) (h1 : v < 3) (h : ∀ t, Q (.str (wayStr v) t) s)
    (hs : ∀ v, subscripted slice false (.ref l) (.int v u) = operate [.ref l, .int v u] (getItem (.ref l) (.int v u)) := by intro _; with_unfolding_all rfl) :
    wpAny (model prog w) A (subscriptTail value slice (.ref l) (.int v u)) Q E s := by
  rcases (by omega : v = 0 ∨ v = 1 ∨ v = 2) with e | e | e <;> subst e
  all_goals exact item_litK (vs := [.str (Str.ofString "free") t1, .str (Str.ofString "used") t2, .str (Str.ofString "packed") t3]) ⟨_, (N _ hm).1, rfl, n, rfl⟩ (by decide) (by decide) rfl (h _) (hs _)
theorem told_get {A : Around} {x dx : Addr} {z1 z2 z3 y1 y2 y3 : Tok} {W : Str} {one two : Int} {pl : Sem Bool} {Q : Value × List Value → Shared → Prop} (F : Fr h₀ L s.heap m) (X : (Mine.hd.heap_39 w.params).In h₀) (N : News h₀ L s.heap news) (h1 : (x, instObj 38 dx) ∈ news) (h2 : (dx, entryDict w.params z1 z2 z3 y1 y2 y3 W one two) ∈ news)
    (h : Q (.ref 35, [.ref x]) s) : wpAny (model PySem.Challenge.pw_og0122_01 w) A (getMethod (.ref x) (Str.ofString "told") pl) Q E s := by
  k_dflt (refine' method_inst (f := 35) F X (InstAt.of_news N h1 h2) ?k4 ?k5 ?k6 ?k7 h)
  case k4 => k_is
  case k5 => k_is
  case k6 => k_is
  case k7 => k_get
local macro_rules | `(tactic| k_steps) => `(tactic| repeat' (first | (k_unfold; (try dsimp only)) | (k_end; wrow_close) | (walk1; (all_goals try dsimp only)) | (dsimp only; walk1) | (leave1; walk_say "STEP leave1"; try dsimp only) | fail "no step"))
set_option maxHeartbeats 1000000 in
theorem told_in {x dx : Addr} {z1 z2 z3 y1 y2 y3 : Tok} {W : Str} {one two : Int}
    (B : Below A₀ base outer h₀) (F : Fr h₀ L s.heap m) (X : (Mine.hd.heap_39 w.params).In h₀) (N : News h₀ L s.heap ((x, instObj 38 dx) :: (dx, entryDict w.params z1 z2 z3 y1 y2 y3 W one two) :: news)) (T : Top Mine.hd.view_39 loose mean mg mb h₀) (hk : cs.kind = .function) (hd : dp + 3 < recursionLimit) (hu : un + 300 < cLine)
    (ret : ∀ r t1 t2 t3 n h' tk', Fr h₀ L h' m → News h₀ L h' ((r, tup3 W one two t1 t2 t3 n) :: (x, instObj 38 dx) :: (dx, entryDict w.params z1 z2 z3 y1 y2 y3 W one two) :: news) → Q (.ref r) { s with heap := h', toks := tk' }) :
    wpAny (model PySem.Challenge.pw_og0122_01 w) (ktrTop dp un gd cn cs L a ccd cl outer) (call (.ref 35) [.ref x]) Q E s := by
  w_top off
  refine wpAny_call ?_
  k_dflt cell_enter
  k_steps
  exact ret _ _ _ _ _ _ _ (by assumption) (by assumption)
theorem told_ok {x dx : Addr} {z1 z2 z3 y1 y2 y3 : Tok} {W : Str} {one two : Int}
    (B : Below A₀ base outer h₀) (F : Fr h₀ L s.heap m) (X : (Mine.hd.heap_39 w.params).In h₀) (N : News h₀ L s.heap news) (T : Top Mine.hd.view_39 loose mean mg mb h₀) (hk : cs.kind = .function) (hd : dp + 3 < recursionLimit) (hu : un + 300 < cLine)
    (h1 : (x, instObj 38 dx) ∈ news) (h2 : (dx, entryDict w.params z1 z2 z3 y1 y2 y3 W one two) ∈ news)
    (ret : ∀ r t1 t2 t3 n h' tk', Fr h₀ L h' m → News h₀ L h' ((r, tup3 W one two t1 t2 t3 n) :: news) → Q (.ref r) { s with heap := h', toks := tk' }) :
    wpAny (model PySem.Challenge.pw_og0122_01 w) (ktrTop dp un gd cn cs L a ccd cl outer) (call (.ref 35) [.ref x]) Q E s := by
  refine told_in (news := news) (W := W) (one := one) (two := two) (x := x) (dx := dx) (z1 := z1) (z2 := z2) (z3 := z3) (y1 := y1) (y2 := y2) (y3 := y3) B F X ?_ T hk hd hu ?_
  · intro z hz
    rcases List.mem_cons.mp hz with e | hz
    · exact e ▸ N _ h1
    · rcases List.mem_cons.mp hz with e | hz
      · exact e ▸ N _ h2
      · exact N _ hz
  · intro r t1 t2 t3 n h' tk' F' N'
    refine ret r t1 t2 t3 n h' tk' F' fun z hz => N' z ?_
    rcases List.mem_cons.mp hz with e | hz
    · exact e ▸ .head _
    · exact .tail _ (.tail _ (.tail _ hz))
theorem ne_bb {prog : Program} {A : Around} {b c : Array UInt8} {t u : Tok} {l : List Int} (hb : KBw.bInts b = l) (hc : KBw.bInts c = l) (h : Q (.bool false) s) : wpAny (model prog w) A (compareOp .NotEq (.bytes b t) (.bytes c u)) Q E s := by
  have e := bInts_inj (hb.trans hc.symm)
  subst e
  refine ne_bytes ?_
  have e : (b.toList != b.toList) = false := by simp
  rw [e]
  exact h
theorem eq_b0 {prog : Program} {A : Around} {b c : Array UInt8} {t u : Tok} {l r : List Int} (hb : KBw.bInts b = l) (hc : KBw.bInts c = r) (h : Q (.bool (decide (l = r))) s) : wpAny (model prog w) A (compareOp .Eq (.bytes b t) (.bytes c u)) Q E s := by
  refine eq_bytes ?_
  have e : (b.toList == c.toList) = decide (l = r) := by
    by_cases e : l = r
    · have e2 := bInts_inj (hb.trans (e.trans hc.symm))
      subst e2
      simp [e]
    · have e2 : b.toList ≠ c.toList := fun e3 => e (by rw [← hb, ← hc]; unfold KBw.bInts; rw [e3])
      rw [decide_eq_false e]
      simpa using e2
  rw [e]
  exact h
theorem bare_one {ms : List Int} {j : Nat} (h : (ms.drop j).take 1 = [0]) : j < ms.length ∧ ms.drop j = 0 :: ms.drop (j + 1) := by
  have hj : j < ms.length := by
    rcases Nat.lt_or_ge j ms.length with h1 | h1
    · exact h1
    · rw [List.drop_eq_nil_of_le h1] at h; simp at h
  refine ⟨hj, ?_⟩
  have e := List.drop_eq_getElem_cons hj
  rw [e] at h
  simp only [List.take_succ_cons, List.take_zero, List.cons.injEq, and_true] at h
  rw [e, h]
theorem num_zero_cons (r : List Int) : num (0 :: r) = num r := by rw [num_cons]; omega
theorem lead_of {ms : List Int} (hb : ∀ k ∈ ms, 0 ≤ k ∧ k < 256) {j : Nat} (h : (ms.drop j).take 1 ≠ [0]) : Lead (ms.drop j) := by
  intro k r e
  rw [e] at h
  have hk : k ∈ ms := List.mem_of_mem_drop (by rw [e]; exact .head _)
  have h1 := (hb k hk).1
  rcases Int.lt_or_eq_of_le h1 with h2 | h2
  · exact h2
  · subst h2; simp at h
structure BareS where
  b : Array UInt8
  t : Tok
theorem while_bare {prog : Program} {A : Around} {env : Env} {test : Expr} {body : List Stmt} {pos : Pos} {m₀ : Str → Option Value} {Q : Flow → Shared → Prop} (ms : List Int) (c₀ : BareS) (F : Fr h₀ L s.heap m₀) (N : News h₀ L s.heap news)
    (hk : ∀ p ∈ [(Str.ofString "bare", Value.bytes c₀.b c₀.t)], m₀ p.1 = some p.2) (hp : KBw.bInts c₀.b = ms)
    (turn : ∀ (c : BareS) (u : Str → Option Value) h tk, True → (∃ j, j ≤ ms.length ∧ KBw.bInts c.b = ms.drop j ∧ num (ms.drop j) = num ms) → Fr h₀ L h (kstB (fun z => if ([] : List Str).contains z then u z else m₀ z) [(Str.ofString "bare", .bytes c.b c.t)]) → News h₀ L h news →
      wpAny (model prog w) A (isTrue test env (eval test env)) (fun b s₂ =>
        if b = true then wpAny (model prog w) A (execs body env) (KswPost h₀ L s (fun _ => news) (fun c : BareS => [(Str.ofString "bare", .bytes c.b c.t)]) (fun _ => True) [] m₀ (fun c => ∃ j, j ≤ ms.length ∧ KBw.bInts c.b = ms.drop j ∧ num (ms.drop j) = num ms) (fun c => c.b.size) Q c) E s₂ else Q .next s₂) E { s with heap := h, toks := tk })
    (hE : PassesOwn (model prog w) A env E) :
    wpAny (model prog w) A (exec (.While test body [] pos) env) Q E s :=
  ksw_while (σ := BareS) (fun _ => news) (fun c => [(Str.ofString "bare", .bytes c.b c.t)]) (fun _ => True) [] (fun c => ∃ j, j ≤ ms.length ∧ KBw.bInts c.b = ms.drop j ∧ num (ms.drop j) = num ms) (fun c => c.b.size) c₀ F N trivial hk ⟨0, Nat.zero_le _, hp, rfl⟩ turn hE
theorem clip_one (l : List Int) : List.take (clipAt l.length 1) l = l.take 1 := by
  show List.take (clipAt l.length ((1 : Nat) : Int)) l = _
  rw [clipAt_nat]
  cases l with
  | nil => simp
  | cons x r => simp
theorem clip_rest {l : List Int} : List.take (l.length - clipAt l.length 1) (List.drop (clipAt l.length 1) l) = l.drop 1 := by
  show List.take (l.length - clipAt l.length ((1 : Nat) : Int)) (List.drop (clipAt l.length ((1 : Nat) : Int)) l) = _
  rw [clipAt_nat]
  cases l with
  | nil => simp
  | cons x r => simp
theorem size_lt {b c : Array UInt8} {l r : List Int} (hb : KBw.bInts b = l) (hc : KBw.bInts c = r) (h : l.length < r.length) : b.size < c.size := by
  rw [← KBw.ints_length b, ← KBw.ints_length c, hb, hc]
  exact h
theorem ne_ii {prog : Program} {A : Around} {a b : Int} {t u : Tok} (e : a = b) (h : Q (.bool false) s) : wpAny (model prog w) A (compareOp .NotEq (.int a t) (.int b u)) Q E s := by
  subst e
  refine PyProof.Rows.ne_int ?_
  have e : (a != a) = false := by simp
  rw [e]
  exact h
end
end
section
theorem with_pen {h₀ h : Heap} {L p q x c : Addr} {t1 t2 : Tok} {n1 : Nat} {ys : List Value} {o2 o : Obj} {G : Prop} (_N : News h₀ L h [(p, listOf #[.ref q, .int 0 t1, .int 0 t2] n1), (q, LCg.lst ys), (x, o2), (c, o)])
    (k : ∀ p' q' t1' t2' ys', p' = p → q' = q → t1' = t1 → t2' = t2 → ys' = ys → G) : G := k p q t1 t2 ys rfl rfl rfl rfl rfl
structure PenS where
  k : Int
  r : Int
  u1 : Tok
  u2 : Tok
  n1 : Nat
  n2 : Nat
  vs : List Value
  ns : List Int
local macro_rules | `(tactic| k_steps) => `(tactic| repeat' (first | (k_unfold; (try dsimp only)) | (k_end; wrow_close) | (walk1; (all_goals try dsimp only)) | (dsimp only; walk1) | (leave1; walk_say "STEP leave1"; try dsimp only) | fail "no step"))
local macro_rules | `(tactic| walk_at "pyIter ref") => `(tactic| refine mk_in ?_)
def DrawnQ (h₀ : Heap) (L : Addr) (m : Str → Option Value) (p q cell : Addr) (oc : Obj) (own : List (Addr × Obj)) (s : Shared) (v : Value) (s' : Shared) : Prop :=
  ∃ (a0 : Nat) (t9 u1 u2 : Tok) (k r : Int) (n1 n2 : Nat) (vs : List Value) (ns : List Int) (h9 : Heap) (tk9 : Nat), v = .int (a0 : Int) t9 ∧ a0 ≤ 2 ∧ IntsAre vs ns ∧ ns.length ≤ 63 ∧ Fr h₀ L h9 m ∧
    News h₀ L h9 ((p, listOf #[.ref q, .int k u1, .int r u2] n1) :: (q, listOf vs.toArray n2) :: (cell, oc) :: own) ∧ s' = { s with heap := h9, toks := tk9 }
theorem ifexp_cut {prog : Program} {w : World} {A : Around} {t : Sem Value} {h₀ : Heap} {L : Addr} {m : Str → Option Value} {p q cell : Addr} {oc : Obj} {own : List (Addr × Obj)} {s : Shared} {Q E : Value → Shared → Prop} (_F : Fr h₀ L s.heap m)
    (h : wpAny (model prog w) A t (DrawnQ h₀ L m p q cell oc own s) E s)
    (k : ∀ (a0 : Nat) (t9 u1 u2 : Tok) (k r : Int) (n1 n2 : Nat) (vs : List Value) (ns : List Int) (h9 : Heap) (tk9 : Nat), a0 ≤ 2 → IntsAre vs ns → ns.length ≤ 63 → Fr h₀ L h9 m →
      News h₀ L h9 ((p, listOf #[.ref q, .int k u1, .int r u2] n1) :: (q, listOf vs.toArray n2) :: (cell, oc) :: own) → Q (.int (a0 : Int) t9) { s with heap := h9, toks := tk9 }) : wpAny (model prog w) A t Q E s := by
  refine wpAny_mono h (fun v s' hq => ?_) fun _ _ x => x
  obtain ⟨a0, t9, u1, u2, k1, r, n1, n2, vs, ns, h9, tk9, rfl, h1, h2, h3, h4, h5, rfl⟩ := hq
  exact k a0 t9 u1 u2 k1 r n1 n2 vs ns h9 tk9 h1 h2 h3 h4 h5
def ValQ (x : Int) (s : Shared) (v : Value) (s' : Shared) : Prop := ∃ (t9 : Tok) (tk9 : Nat), v = .int x t9 ∧ s' = { s with toks := tk9 }
theorem val_cut {M : Model} {A : Around} {t : Sem Value} {s : Shared} {Q E : Value → Shared → Prop} (x : Int) (h : wpAny M A t (ValQ x s) E s) (k : ∀ t9 tk9, Q (.int x t9) { s with toks := tk9 }) : wpAny M A t Q E s := by
  refine wpAny_mono h (fun v s' hq => ?_) fun _ _ x => x
  obtain ⟨t9, tk9, rfl, rfl⟩ := hq
  exact k t9 tk9
theorem mem3 {v d : Int} (h : v ∈ [d, (0 : Int), 255]) (h0 : 0 ≤ d) (h1 : d < 256) : 0 ≤ v ∧ v < 256 := by
  simp only [List.mem_cons, List.not_mem_nil, or_false] at h
  omega
local macro_rules | `(tactic| walk_at "eval IfExp") => `(tactic| ((fail_if_success (show wpAny _ _ _ (DrawnQ _ _ _ _ _ _ _ _ _) _ _)); (fail_if_success (show wpAny _ _ _ (ValQ _ _) _ _)); refine mk_in ?_))
structure MyMark : Prop where
structure MyMark2 : Prop where
theorem with_lap {h₀ h : Heap} {L z0 z1 wl p q : Addr} {o0 o1 : Obj} {a0 w1 w2 k r : Int} {tA tB tC u1 u2 : Tok} {nW n1 n2 : Nat} {vs : List Value} {rest : List (Addr × Obj)} {way : Int} {ws : List Int} {G : Prop}
    (_N : News h₀ L h ((z0, o0) :: (z1, o1) :: (wl, listOf #[.int a0 tA, .int w1 tB, .int w2 tC] nW) :: (p, listOf #[.ref q, .int k u1, .int r u2] n1) :: (q, listOf vs.toArray n2) :: rest)) (_h : way ∈ ws)
    (f : ∀ wl' w1' w2' tA' tB' tC' nW' k' r' u1' u2' n1' n2' vs' way', wl' = wl → w1' = w1 → w2' = w2 → tA' = tA → tB' = tB → tC' = tC → nW' = nW → k' = k → r' = r → u1' = u1 → u2' = u2 → n1' = n1 → n2' = n2 → vs' = vs → way' = way → G) : G :=
  f _ _ _ _ _ _ _ _ _ _ _ _ _ _ _ rfl rfl rfl rfl rfl rfl rfl rfl rfl rfl rfl rfl rfl rfl rfl
theorem mem102 {v : Int} (h : v ∈ [(1 : Int), 0, 2]) : ∃ a0 : Nat, v = (a0 : Int) ∧ a0 ≤ 2 := by
  simp only [List.mem_cons, List.not_mem_nil, or_false] at h
  exact ⟨v.toNat, by omega, by omega⟩
theorem memWay {v : Int} (h : v ∈ [(1 : Int), 0, 2, 3, 255, 1]) : 0 ≤ v ∧ v < 256 := by
  simp only [List.mem_cons, List.not_mem_nil, or_false] at h
  omega
local macro_rules | `(tactic| walk_at "binaryOp Mult ref int") => `(tactic| refine mk_in ?_)
local macro_rules | `(tactic| walk_at "binaryOp Add ref ref") => `(tactic| refine mk_in ?_)
local macro_rules | `(tactic| walk_at "call type:bytes") => `(tactic| refine mk_in ?_)
local macro_rules | `(tactic| walk_at "eval ListComp") => `(tactic| ((with_reducible show wpAny _ _ (eval (Expr.ListComp (Expr.Call _ _ _ _) _ _ _) _) _ _ _); refine mk_in ?_))
local macro_rules | `(tactic| walk_at "CompSrc") => `(tactic| ((rename MyMark => hMM); refine mk_in ?_))
local macro_rules | `(tactic| walk_at "CompEnd") => `(tactic| ((rename MyMark => hMM); refine mk_in ?_))
local macro_rules | `(tactic| walk_at "binaryOp Add bytes bytes") => `(tactic| refine mk_in ?_)
local macro_rules | `(tactic| walk_at "call ref") => `(tactic| (k_here; k_dflt (refine' draw_ok ?k1 ?k2 ?k3 ?k5 ?kK ?kd ?ku ?kN (two_of ?kU1 ?kU2) ?hpq ?hi ?hl ?hm ?hm2 ?_; (case k1 => k_asm); (case k2 => k_asm); (case k3 => k_asm); (case k5 => k_asm); (case kK => exact rfl); (case kd => decide); (case ku => decide); (case kN => k_asm); (case kU1 => k_updF); (case kU2 => (intro _; k_updF)); (case hpq => assumption); (case hi => with_reducible assumption); (case hl => with_reducible assumption); (case hm => decide); (case hm2 => decide)); intro v9 k9 r9 t9 u9 u8 n9 n8 vs9 ns9 h9 tk9 hv0 hv1 hi9 hl9 F9 N9; (try dsimp only at N9); (try k_sweep)))
local macro_rules | `(tactic| walk_at "call ref") => `(tactic| (k_here; k_dflt (refine' pick_ok ?k1 ?k2 ?k3 ?k5 ?kK ?kd ?ku ?kN (two_of ?kU1 ?kU2) ?hpq ?hmem ?hlp ?hlq ?hi ?hl ?hj ?hm ?hm2 ?_; (case k1 => k_asm); (case k2 => k_asm); (case k3 => k_asm); (case k5 => k_asm); (case kK => exact rfl); (case kd => decide); (case ku => decide); (case kN => k_asm); (case kU1 => k_updF); (case kU2 => (intro _; k_updF)); (case hpq => assumption); (case hmem => k_mem); (case hlp => k_ne); (case hlq => k_ne); (case hi => with_reducible assumption); (case hl => with_reducible assumption); (case hj => (repeat constructor)); (case hm => exact Nat.le_of_ble_eq_true rfl); (case hm2 => exact Nat.le_of_ble_eq_true rfl)); intro v9 k9 r9 t9 u9 u8 n9 n8 vs9 ns9 h9 tk9 hv0 hi9 hl9 F9 N9; (try dsimp only at N9); (try k_sweep)))
local macro_rules | `(tactic| walk_at "call ref") => `(tactic| ((rename MyMark2 => hMM2); (first | show wpAny _ _ (call (Value.ref 111) _) _ _ _ | show wpAny _ _ (call (Value.ref 35) _) _ _ _ | show wpAny _ _ (call (Value.ref 137) _) _ _ _ | show wpAny _ _ (call (Value.ref 97) _) _ _ _ | show wpAny _ _ (call (Value.ref 104) _) _ _ _ | show wpAny _ _ (call (Value.ref 90) _) _ _ _); refine mk_in ?_))
theorem news_dup {h₀ h : Heap} {L : Addr} {z : Addr × Obj} {news : List (Addr × Obj)} (N : News h₀ L h news) (hm : z ∈ news) : News h₀ L h (z :: news) := fun x hx => by
  rcases List.mem_cons.mp hx with e | hx
  · exact e ▸ N _ hm
  · exact N _ hx
local macro_rules | `(tactic| walk_at "InvEndN") => `(tactic| refine mk_in ?_)
theorem slice_mid {ks : List Int} {a b : Nat} (h : a + b ≤ ks.length) : List.take (clipAt ks.length ((a : Int) + (b : Int)) - clipAt ks.length (a : Int)) (List.drop (clipAt ks.length (a : Int)) ks) = (ks.drop a).take b := by
  rw [clip_nat2 h, clip_nat (by omega), Nat.add_sub_cancel_left]
theorem slice_end {ks : List Int} {a b : Nat} (h : a + b ≤ ks.length) : List.take (ks.length - clipAt ks.length ((a : Int) + (b : Int))) (List.drop (clipAt ks.length ((a : Int) + (b : Int))) ks) = ks.drop (a + b) := by
  rw [clip_nat2 h, List.take_of_length_le (by rw [List.length_drop]; omega)]
local macro_rules | `(tactic| walk_at "getMethod ref") => `(tactic| ((rename MyMark2 => hMM2); (with_reducible show wpAny _ _ (getMethod _ (Str.ofString "told") _) _ _ _); refine mk_in ?_))
local macro_rules | `(tactic| walk_at "subscriptTail") => `(tactic| ((rename MyMark2 => hMM2); (with_reducible show wpAny _ _ (subscriptTail (Expr.List _ _) _ _ _) _ _ _); refine mk_in ?_))
local macro_rules | `(tactic| walk_at "compareOp NotEq ref ref") => `(tactic| ((rename MyMark2 => hMM2); refine mk_in ?_))
local macro_rules | `(tactic| walk_at "compareOp NotEq bytes bytes") => `(tactic| ((rename MyMark2 => hMM2); refine mk_in ?_))
local macro_rules | `(tactic| walk_at "compareOp Eq bytes bytes") => `(tactic| ((rename MyMark2 => hMM2); refine mk_in ?_))
local macro_rules | `(tactic| walk_at "exec While Compare cons nil") => `(tactic| ((rename MyMark2 => hMM2); refine mk_in ?_))
local macro_rules | `(tactic| walk_at "KswEnd") => `(tactic| ((rename MyMark2 => hMM2); refine mk_in ?_))
local macro_rules | `(tactic| walk_at "compareOp NotEq int int") => `(tactic| ((rename MyMark2 => hMM2); refine mk_in ?_))
set_option maxHeartbeats 8000000 in
theorem law_holds : PySem.Challenge.rw_og0122_01.Holds := Mine.hd (by
  k_go0; (all_goals try k_fold)
  k_steps
  refine Mk.mk ?_
  (rename Fr _ _ _ _ => lF'); (rename News _ _ _ _ => lN'); (rename IsRange _ _ _ _ _ _ _ _ => rgX)
  rename Shared => s1
  rename Obj => oc
  (rename (_ = Data.cell _) => hoc)
  refine with_pen lN' ?_; intro p q t1 t2 ys e1 e2 e3 e4 e5; subst e1 e2 e3 e4 e5
  (rename IntsAre ys _ => hys)
  obtain ⟨ns0, hns0, hns1⟩ : ∃ ns0, IntsAre ys ns0 ∧ ns0.length ≤ 63 := ⟨_, hys, by simp only [List.length_map, List.length_take]; omega⟩
  (rename (@LT.lt Nat _ q p ∧ _) => hqp)
  have hpq : @Ne Nat p q := Nat.ne_of_gt hqp.1
  have hpc : @Ne Nat (s1.heap.objs.size + 1) p := Nat.ne_of_lt hqp.2.2
  have hqc : @Ne Nat (s1.heap.objs.size + 1) q := by omega
  (refine' kst_range (σ := PenS) (fun c => [(p, listOf #[.ref q, .int c.k c.u1, .int c.r c.u2] c.n1), (q, listOf c.vs.toArray c.n2), (s1.heap.objs.size + 1, oc)]) (fun c => []) (fun c => IntsAre c.vs c.ns ∧ c.ns.length ≤ 63) ["widths", "way", "octets", "cut", "behind", "entry", "one", "two", "bare"] (fun pre c => True) ⟨0, 0, t1, t1 + 1, 0, ys.length, ys, ns0⟩ ?ka rgX (by decide) (by rfl) lF' ?kn ?kf ?kk ?kp ?kt ?kd)
  case ka => rfl
  case kn => exact kst_newsOf lN' (by intro z hz; simp only [List.mem_cons, List.not_mem_nil, or_false] at hz ⊢; rcases hz with h | h | h <;> simp [h])
  case kf => exact ⟨hns0, hns1⟩
  case kk => kst_all
  case kp => trivial
  case kd =>
    clear rgX lF' lN'
    intro c u h tk' hf hp F' N'
    (try dsimp only at N'); (try dsimp only [kstB] at F')
    k_steps
  case kt =>
    clear rgX lF' lN'
    intro c pre lap tl u h tk' own hlap hlt off hf hp F' N'
    obtain ⟨k0, r0, u1, u2, n1, n2, vs, ns⟩ := c
    dsimp only at hf hp N' F' off
    dsimp only [kstB] at F'
    simp only [List.cons_append, List.nil_append] at N'
    simp only [List.map_cons, List.map_nil] at off
    obtain ⟨hvs, hns⟩ := hf
    k_steps
    refine Mk.mk ?_
    (rename Fr _ _ _ _ => F1)
    refine ifexp_cut (p := p) (q := q) (cell := s1.heap.objs.size + 1) (oc := oc) (own := own) F1 ?_ ?_
    · k_steps
      · (rename (_ ∈ [(1 : Int), 0, 2]) => hv)
        (rename News _ _ _ _ => nE)
        obtain ⟨a0, e, ha⟩ := mem102 hv
        subst e
        exact ⟨a0, _, _, _, _, _, _, _, _, _, _, _, rfl, ha, by assumption, by assumption, by assumption, news_tail nE, rfl⟩
      · exact ⟨0, _, _, _, _, _, _, _, _, _, _, _, rfl, by decide, hvs, hns, by assumption, N', rfl⟩
    clear F1 N' hvs hns
    intro a0 t9 u1 u2 k1 r1 n1 n2 vs ns h9 tk9 ha0 hvs hns F9 N9
    dsimp only
    k_steps
    refine Mk.mk ?_
    (rename (_ ∈ [(1 : Int), 0, 2, 3, 255, 1]) => hway)
    (rename News _ _ _ _ => N8)
    refine with_lap N8 hway ?_
    intro wl w1 w2 tA tB tC nW k2 r2 u3 u4 n3 n4 vs2 way e1 e2 e3 e4 e5 e6 e7 e8 e9 e10 e11 e12 e13 e14 e15
    subst e1 e2 e3 e4 e5 e6 e8 e9 e10 e11 e12 e13 e14 e15
    have hMM : MyMark := ⟨⟩
    have hway2 := memWay hway
    obtain ⟨b1, hb1⟩ : ∃ b1 : Nat, w1 = (b1 : Int) := ⟨w1.toNat, by omega⟩
    obtain ⟨b2, hb2⟩ : ∃ b2 : Nat, w2 = (b2 : Int) := ⟨w2.toNat, by omega⟩
    subst hb1 hb2
    have hb15 : b1 < 5 := by omega
    have hb24 : b2 < 4 := by omega
    obtain ⟨ns2, hvs2, hns2⟩ : ∃ ns2, IntsAre vs2 ns2 ∧ ns2.length ≤ 63 := ⟨_, by assumption, by assumption⟩
    refine rep1 (k := a0 - 1) (by assumption) N8 (by k_mem) (by show (if 0 > (a0 : Int) - 1 then (0 : Int) else (a0 : Int) - 1) = _; split <;> omega) (by omega) ?_
    intro D1 vs1 h1 F1 N1 l1 hi1
    k_lt l1
    (try k_sweep)
    k_steps
    refine Mk.mk ?_
    refine rep1 (k := min a0 1) (by assumption) (by assumption) (by k_mem) (by show (if 1 < (a0 : Int) then (1 : Int) else (a0 : Int)) = _; split <;> omega) (by omega) ?_
    intro D2 vs2' h2 F2 N2 l2 hi2
    k_lt l2
    (try k_sweep)
    k_steps
    refine Mk.mk ?_
    refine add_ll (by assumption) (by assumption) (by k_mem) (by k_mem) hi1 hi2 (by simp; omega) ?_
    intro D3 vs3 h3 F3 N3 l3 hi3
    k_lt l3
    (try k_sweep)
    k_steps
    refine Mk.mk ?_
    have hr3 : ∀ k ∈ List.replicate (a0 - 1) (0 : Int) ++ List.replicate (min a0 1) way, 0 ≤ k ∧ k < 256 := by
      intro k hk
      rcases List.mem_append.mp hk with hk | hk
      · rw [List.eq_of_mem_replicate hk]; decide
      · rw [List.eq_of_mem_replicate hk]; exact hway2
    refine bytes_B (by assumption) (by assumption) (by k_mem) hi3 hr3 (by simp; omega) rfl ?_
    intro b0 h4 t4 k4 F4 N4 hb0
    (try k_sweep)
    dsimp only
    k_steps
    refine Mk.mk ?_
    (rename Fr _ _ _ _ => F5)
    refine LCg.ListComp_U F5 (by with_unfolding_all rfl) (by decide) (by rfl) (by decide) (by rfl) ?_
    k_steps
    refine Mk.mk ?_
    (rename IsRange _ _ _ _ _ _ _ _ => rgX2)
    (rename Fr _ _ _ _ => F6)
    (rename News _ _ _ _ => N6)
    have rgX3 : IsRange _ _ 0 ((b1 + b2 : Nat) : Int) 1 _ _ _ := rgX2
    refine LCg.CompSrc.range (news := (wl, listOf #[.int (a0 : Int) tA, .int (b1 : Int) tB, .int (b2 : Int) tC] 0) :: (p, listOf #[.ref q, .int k2 u3, .int r2 u4] n3) :: (q, listOf vs2.toArray n4) :: (s1.heap.objs.size + 1, oc) :: own) rfl F6 (kst_newsOf N6 (by intro z hz; exact List.Mem.tail _ (List.Mem.tail _ (List.Mem.tail _ (List.Mem.tail _ (List.Mem.tail _ (List.Mem.tail _ hz))))))) rgX3 (small_one (by omega) (by omega) (by omega) (by omega)) (rangeSize_nat _ _) (by rw [PySem.sizeLine_eq]; omega) ?_
    intro g6
    refine comp_ind (σ := PenS) (fun c => (wl, listOf #[.int (a0 : Int) tA, .int (b1 : Int) tB, .int (b2 : Int) tC] 0) :: (p, listOf #[.ref q, .int c.k c.u1, .int c.r c.u2] c.n1) :: (q, listOf c.vs.toArray c.n2) :: (s1.heap.objs.size + 1, oc) :: own) (fun c => IntsAre c.vs c.ns ∧ c.ns.length ≤ 63) ?turn ?fin ⟨k2, r2, u3, u4, n3, n4, vs2, ns2⟩ ⟨hvs2, hns2⟩
    case turn =>
      clear F6 N6 rgX2 rgX3
      intro c v I oI C oC D m2 ys2 h tk E' hc hC hx F N off3 ne
      obtain ⟨k0, r0, u1, u2, n1, n2, vs, ns⟩ := c
      dsimp only at hc N off3
      obtain ⟨hvs, hns⟩ := hc
      have off4 := off3
      simp only [LCg.Off3] at off3
      k_steps
      refine Mk.mk ?_
      (rename News _ _ _ _ => N7)
      (rename (_ ∈ [_, (0 : Int), 255]) => hv)
      have hv2 := mem3 hv (by assumption) (by assumption)
      exact LCg.CompEnd.intro (by assumption) N7 _ (fun z hz => List.Mem.tail _ hz) off4 trivial ⟨⟨_, _, _, _, _, _, _, _⟩, _, _, rfl, ⟨by assumption, by assumption⟩, rfl, hv2⟩
    case fin =>
      clear F6 N6 rgX2 rgX3
      intro ys2 ns3 c hi3' hl3 hr3' hc
      obtain ⟨k0, r0, u1, u2, n1, n2, vs, ns⟩ := c
      dsimp only at hc ⊢
      obtain ⟨hvs, hns⟩ := hc
      intro D h tk F N o1
      simp only [LCg.Off1] at o1
      dsimp only at F N ⊢
      k_steps
      refine Mk.mk ?_
      refine bytes_B F N (List.Mem.head _) hi3' hr3' (by omega) rfl ?_
      intro bb h5 t5 k5 F5 N5 hbb
      replace N5 := news_tail N5
      dsimp only
      k_steps
      refine Mk.mk ?_
      refine add_bb hb0 hbb (by simp; omega) ?_
      intro bd t6 k6 hbd
      have hP : (List.replicate (a0 - 1) (0 : Int) ++ List.replicate (min a0 1) way).length = a0 := by simp <;> omega
      have hrd : ∀ k ∈ (List.replicate (a0 - 1) (0 : Int) ++ List.replicate (min a0 1) way) ++ ns3, 0 ≤ k ∧ k < 256 := by
        intro k hk
        rcases List.mem_append.mp hk with hk | hk
        · exact hr3 k hk
        · exact hr3' k hk
      have hnum : num (List.replicate (a0 - 1) (0 : Int) ++ List.replicate (min a0 1) way) = if 0 < a0 then way else 0 := by
        rcases (by omega : a0 = 0 ∨ a0 = 1 ∨ a0 = 2) with e | e | e <;> subst e <;> simp [num]
      generalize List.replicate (a0 - 1) (0 : Int) ++ List.replicate (min a0 1) way = ks0 at *
      have hl3' : ns3.length = b1 + b2 := by omega
      dsimp only
      k_steps
      refine Mk.mk ?_
      have htk : num ((ks0 ++ ns3).take a0) = if 0 < a0 then way else 0 := by rw [List.take_left' hP]; exact hnum
      have hkl : (ks0 ++ ns3).length = a0 + b1 + b2 := by rw [List.length_append]; omega
      clear hi3 hr3 hb0 hr3' hbb hl3 hl3' hi3' hP hnum
      generalize ks0 ++ ns3 = ks at *
      obtain ⟨wy, hwy⟩ : ∃ wy : Int, wy = if 0 < a0 then way else 1 := ⟨_, rfl⟩
      refine val_cut wy ?_ ?_
      · k_steps
        · (rename (0 < List.getD _ _ _) => hc0)
          have hc1 : 0 < (a0 : Int) := hc0
          exact ⟨_, _, by rw [hwy, if_pos (by omega)], rfl⟩
        · (rename (¬ 0 < List.getD _ _ _) => hc0)
          have hc1 : ¬ 0 < (a0 : Int) := hc0
          exact ⟨_, _, by rw [hwy, if_neg (by omega)], rfl⟩
      intro tw tkw
      have hMM2 : MyMark2 := ⟨⟩
      dsimp only
      k_steps
      refine Mk.mk ?_
      (rename News _ _ _ _ => N6)
      refine' row_ok (wl := wl) (a0 := a0) (a1 := b1) (w2 := (b2 : Int)) (t0 := tA) (t1 := tB) (t2 := tC) (nw := 0) (ks := ks) (wy := wy) ?B ?F ?X (news_dup N6 ?hm) ?T ?hk (by decide) (by decide) hbd (by omega) (by omega) ?hwy ?rN ?rE
      case B => k_asm
      case F => k_asm
      case X => k_asm
      case hm => k_mem
      case T => k_asm
      case hk => rfl
      case hwy => (rw [htk, hwy]; by_cases h : 0 < a0 <;> simp [h])
      case rN =>
        intro h7 tk7 hw3 F7 N7
        replace N7 := news_tail N7
        clear N6
        dsimp only
        k_steps
        refine Mk.mk ?_
        (rename News _ _ _ _ => nE')
        refine' kst_end (⟨k0, r0, u1, u2, n1, n2, vs, ns⟩ : PenS) ?ka nE' ?kb ?kc rfl ?kf ?kk ?ks trivial
        case ka => assumption
        case kb => (intro z hz; simp only [List.mem_cons, List.not_mem_nil, or_false] at hz; rcases hz with e | e | e <;> (subst e; k_mem))
        case kc => (intro z hz; kst_mem)
        case kf => exact ⟨hvs, hns⟩
        case kk => kst_all
        case ks => kst_same
      case rE =>
        intro x dx W one two z1 z2 z3 y1 y2 y3 h7 tk7 hw0 hw3 hW hone htwo F7 N7 hlt1 hlt2 hlt3
        replace N7 : News _ _ _ ((x, instObj 38 dx) :: (dx, entryDict _ z1 z2 z3 y1 y2 y3 W one two) :: _) := fun z hz => N7 z (by
          rcases List.mem_cons.mp hz with e | hz
          · exact e ▸ .head _
          · rcases List.mem_cons.mp hz with e | hz
            · exact e ▸ .tail _ (.head _)
            · exact .tail _ (.tail _ (.tail _ hz)))
        clear N6
        subst hW hone htwo
        rename World => ww
        obtain ⟨od, hod⟩ : ∃ od, od = entryDict ww.params z1 z2 z3 y1 y2 y3 (wayStr wy) (num ((ks.drop a0).take b1)) (num (ks.drop (a0 + b1))) := ⟨_, rfl⟩
        rw [← hod] at N7
        dsimp only
        k_steps
        refine Mk.mk ?_
        have hlm : ((ks.drop a0).take b1).length = b1 := by rw [List.length_take, List.length_drop]; omega
        have hle : (ks.drop (a0 + b1)).length = b2 := by rw [List.length_drop]; omega
        (rename (KBw.bInts (KBy.picked _ _ _) = _) => hk1)
        refine' number_ok ?B ?F ?X ?N ?T ?hk (by decide) (by decide) (hk1.trans (slice_mid (by omega))) (by rw [hlm]; omega) ?_
        case B => k_asm
        case F => k_asm
        case X => k_asm
        case N => k_asm
        case T => k_asm
        case hk => rfl
        intro t11 h11 tk11 F11 N11
        (try k_sweep)
        dsimp only
        k_steps
        refine Mk.mk ?_
        (rename (KBw.bInts (KBy.picked _ _ _) = _) => hk2)
        refine' number_ok ?B ?F ?X ?N ?T ?hk (by decide) (by decide) (hk2.trans (slice_end (by omega))) (by rw [hle]; omega) ?_
        case B => k_asm
        case F => k_asm
        case X => k_asm
        case N => k_asm
        case T => k_asm
        case hk => rfl
        intro t12 h12 tk12 F12 N12
        (try k_sweep)
        dsimp only
        k_steps
        refine Mk.mk ?_
        refine told_get (z1 := z1) (z2 := z2) (z3 := z3) (y1 := y1) (y2 := y2) (y3 := y3) (W := wayStr wy) (one := num ((ks.drop a0).take b1)) (two := num (ks.drop (a0 + b1))) (x := x) (dx := dx) (by k_asm) (by k_asm) (by assumption) (by k_mem) (by rw [← hod]; k_mem) ?_
        dsimp only
        k_steps
        refine Mk.mk ?_
        refine' told_ok (z1 := z1) (z2 := z2) (z3 := z3) (y1 := y1) (y2 := y2) (y3 := y3) (W := wayStr wy) (one := num ((ks.drop a0).take b1)) (two := num (ks.drop (a0 + b1))) (x := x) (dx := dx) ?B ?F ?X ?N ?T ?hk (by decide) (by decide) ?h1 ?h2 ?_
        case B => k_asm
        case F => k_asm
        case X => k_asm
        case N => k_asm
        case T => k_asm
        case hk => rfl
        case h1 => k_mem
        case h2 => (rw [← hod]; k_mem)
        intro r9 t21 t22 t23 n9 h13 tk13 F13 N13
        (try k_sweep)
        dsimp only
        k_steps
        refine Mk.mk ?_
        refine made_item (by assumption) (by k_mem) hw0 hw3 ?_
        intro t14
        k_steps
        refine Mk.mk ?_
        refine tup_ne (W := wayStr wy) (x := num ((ks.drop a0).take b1)) (y := num (ks.drop (a0 + b1))) (by assumption) (by k_mem) (by k_mem) (Nat.le_of_ble_eq_true rfl) (shaped_way _ _ _) ?_
        k_steps
        have hrm : ∀ k ∈ (ks.drop a0).take b1, 0 ≤ k ∧ k < 256 := fun k hk => hrd k (List.mem_of_mem_drop (List.mem_of_mem_take hk))
        have hre : ∀ k ∈ ks.drop (a0 + b1), 0 ≤ k ∧ k < 256 := fun k hk => hrd k (List.mem_of_mem_drop hk)
        refine Mk.mk ?_
        refine' fo_ok (ks := (ks.drop a0).take b1) ?B ?F ?X ?N ?T ?hk (by decide) (by decide) ?jb ?jl ?jn ?jw ?_
        case B => k_asm
        case F => k_asm
        case X => k_asm
        case N => k_asm
        case T => k_asm
        case hk => rfl
        case jb => exact hrm
        case jl => (rw [hlm]; omega)
        case jn => rfl
        case jw => (rw [hlm]; rfl)
        intro bf1 t15 h15 tk15 hbf1 F15 N15
        (try k_sweep)
        dsimp only
        k_steps
        refine Mk.mk ?_
        (rename (KBw.bInts (KBy.picked _ _ _) = _) => hk3)
        refine ne_bb hbf1 (hk3.trans (slice_mid (by omega))) ?_
        k_steps
        refine Mk.mk ?_
        refine' fo_ok (ks := ks.drop (a0 + b1)) ?B ?F ?X ?N ?T ?hk (by decide) (by decide) ?jb ?jl ?jn ?jw ?_
        case B => k_asm
        case F => k_asm
        case X => k_asm
        case N => k_asm
        case T => k_asm
        case hk => rfl
        case jb => exact hre
        case jl => (rw [hle]; omega)
        case jn => rfl
        case jw => (rw [hle]; rfl)
        intro bf2 t15 h15 tk15 hbf2 F15 N15
        (try k_sweep)
        dsimp only
        k_steps
        refine Mk.mk ?_
        (rename (KBw.bInts (KBy.picked _ _ _) = _) => hk4)
        refine ne_bb hbf2 (hk4.trans (slice_end (by omega))) ?_
        k_steps
        refine Mk.mk ?_
        (rename Fr _ _ _ _ => FW)
        (rename News _ _ _ _ => NW)
        (rename (KBw.bInts (KBy.picked _ _ _) = _) => hk5)
        have hkm := hk5.trans (slice_mid (by omega))
        refine' while_bare ((ks.drop a0).take b1) ⟨_, _⟩ FW NW ?kk hkm ?kt ?ke
        case kk => kst_all
        case ke => passes_own
        generalize (ks.drop a0).take b1 = ms at *
        clear FW NW
        intro c u h tk _ hp F N
        obtain ⟨bb, tb⟩ := c
        obtain ⟨j, hj, hbj, hnj⟩ := hp
        dsimp only [kstB] at F
        dsimp only at hbj
        have hjl : (ms.drop j).length ≤ 16 := by rw [List.length_drop]; omega
        k_steps
        refine Mk.mk ?_
        (rename (KBw.bInts (KBy.picked _ _ _) = _) => hk6)
        refine eq_b0 (r := [0]) (hk6.trans (clip_one _)) (by rfl) ?_
        k_steps
        · (rename ((ms.drop j).take 1 = [0]) => hcond)
          refine Mk.mk ?_
          obtain ⟨hj1, he1⟩ := bare_one hcond
          (rename (KBw.bInts (KBy.picked _ _ _) = _) => hk8)
          (rename News _ _ _ _ => nE')
          have hk9 : KBw.bInts _ = ms.drop (j + 1) := hk8.trans (clip_rest.trans (by rw [List.drop_drop]))
          refine' ksw_end (⟨_, _⟩ : BareS) ?ka nE' ?kb ?kc ?kd ?kf ?kg ?kh
          case ka => assumption
          case kb => exact fun p hp => hp
          case kc => trivial
          case kd => kst_all
          case kf => ksw_same
          case kg => exact ⟨j + 1, by omega, hk9, by rw [← hnj, he1, num_zero_cons]⟩
          case kh => exact size_lt hk9 hbj (by rw [List.length_drop, List.length_drop]; omega)
        · (rename (¬ (ms.drop j).take 1 = [0]) => hcond)
          refine Mk.mk ?_
          refine' width_ok (ks := ms.drop j) ?B ?F ?X ?N ?T ?hk (by decide) (by decide) ?jb ?jz ?jn ?_
          case B => k_asm
          case F => k_asm
          case X => k_asm
          case N => k_asm
          case T => k_asm
          case hk => rfl
          case jb => exact fun k hk => hrm k (List.mem_of_mem_drop hk)
          case jz => exact lead_of hrm hcond
          case jn => exact hnj.symm
          intro t16 h16 tk16 F16 N16
          (try k_sweep)
          dsimp only
          k_steps
          refine Mk.mk ?_
          refine ne_ii rfl ?_
          k_steps
          refine Mk.mk ?_
          refine' field_ok (ks := ks) ?B ?F ?X ?N ?T ?hk (by decide) (by decide) hbd ?_
          case B => k_asm
          case F => k_asm
          case X => k_asm
          case N => k_asm
          case T => k_asm
          case hk => rfl
          intro t17 h17 tk17 F17 N17
          (try k_sweep)
          dsimp only
          k_steps
          refine Mk.mk ?_
          refine' number_ok (ks := ks) ?B ?F ?X ?N ?T ?hk (by decide) (by decide) hbd (by omega) ?_
          case B => k_asm
          case F => k_asm
          case X => k_asm
          case N => k_asm
          case T => k_asm
          case hk => rfl
          intro t18 h18 tk18 F18 N18
          (try k_sweep)
          dsimp only
          k_steps
          refine Mk.mk ?_
          refine ne_ii rfl ?_
          k_steps
          refine Mk.mk ?_
          refine' field_ok (ks := ms.drop j) ?B ?F ?X ?N ?T ?hk (by decide) (by decide) hbj ?_
          case B => k_asm
          case F => k_asm
          case X => k_asm
          case N => k_asm
          case T => k_asm
          case hk => rfl
          intro t19 h19 tk19 F19 N19
          (try k_sweep)
          dsimp only
          k_steps
          refine Mk.mk ?_
          refine ne_ii hnj ?_
          k_steps
          refine Mk.mk ?_
          (rename News _ _ _ _ => nE')
          refine' kst_end (⟨k0, r0, u1, u2, n1, n2, vs, ns⟩ : PenS) ?ka nE' ?kb ?kc rfl ?kf ?kk ?ks trivial
          case ka => assumption
          case kb => (intro z hz; simp only [List.mem_cons, List.not_mem_nil, or_false] at hz; rcases hz with e | e | e <;> (subst e; k_mem))
          case kc => (intro z hz; kst_mem)
          case kf => exact ⟨hvs, hns⟩
          case kk => kst_all
          case ks => kst_same)
end
end Mine
theorem PySem.Challenge.cw_og0122_01_holds : PySem.Challenge.rw_og0122_01.Holds :=
  Mine.law_holds
