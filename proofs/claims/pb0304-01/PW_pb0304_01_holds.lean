import PyProof.Rows.All
import Wide.All
import OpenK.AllK
import Wide.FinOn
import Lean
import PySem.Challenge.RW_pb0304_01
open PySem PySem.W PyProof.Rows PySem.Calls PySem.Spec
set_option Elab.async false
set_option maxRecDepth 100000
set_option maxHeartbeats 8000000
namespace Mine

open_top hd for PySem.Challenge.rw_pb0304_01

-- El01
section
open PySem PySem.W PyProof.Rows PySem.Calls PySem.Spec

theorem fill : PySem.Challenge.rw_pb0304_01 = PySem.Challenge.rw_pb0304_01 ∧ hd.heap_39 = hd.heap_39 := by k_fill; exact ⟨rfl, rfl⟩

/-- the one step of `_law_elements` -/
def elStep (v : Int) (l : List Int) (k : Int) : List Int := if Int.fmod (Int.fdiv v (2 ^ k.toNat)) 2 = 1 then l ++ [k] else l
/-- what `_law_elements` hands back -/
def els (v : Int) : List Int := (rangeKs 0 40).foldl (elStep v) []
theorem elStep_grows (v : Int) : KPfGrows (elStep v) := by
  intro l k
  unfold elStep
  split <;> simp
theorem elStep_yes {v k : Int} {l : List Int} (h : Int.fmod (Int.fdiv v (2 ^ k.toNat)) 2 = 1) : elStep v l k = l ++ [k] := by unfold elStep; rw [if_pos h]
theorem elStep_no {v k : Int} {l : List Int} (h : ¬ Int.fmod (Int.fdiv v (2 ^ k.toNat)) 2 = 1) : elStep v l k = l := by unfold elStep; rw [if_neg h]

theorem off_cons {I C D a : Addr} {o : Obj} {news : List (Addr × Obj)} (h : (a ≠ I ∧ a ≠ C ∧ a ≠ D) ∧ LCg.Off3 I C D news) : LCg.Off3 I C D ((a, o) :: news) := h

def ElemTells (prog : Program) (w : World) (p : Program) (loose : List Str) (mean : ExcName → Option Value) (mg mb : Str → Option Value) : Prop :=
  ∀ (dp un : Nat) (gd : Option (List Code)) (cn : Str) (cs : Scope) (a : Addr) (ccd : Value) (cl : List (Str × Addr)) (outer : List Env) (A₀ : Around) (base h₀ : Heap) (L : Addr) (m : Str → Option Value) (news : List (Addr × Obj)) (s : Shared) (v : Int) (tk : Tok)
    (Q E : Value → Shared → Prop),
    Below A₀ base outer h₀ → Fr h₀ L s.heap m → (hd.heap_39 w.params).In h₀ → News h₀ L s.heap news → Top p loose mean mg mb h₀ → cs.kind = .function → dp + 8 < recursionLimit → un + 200 < cLine →
    (∀ q ys h' tk', Fr h₀ L h' m → News h₀ L h' ((q, LCg.lst ys) :: news) → LCg.Off1 q news → IntsAre ys (els v) → ys.length ≤ 40 → Q (.ref q) { s with heap := h', toks := tk' }) →
    wpAny (model prog w) (ktrTop dp un gd cn cs L a ccd cl outer) (call (.ref 47) [.int v tk]) Q E s

theorem elem_tells {prog : Program} {w : World} {p : Program} {loose : List Str} {mean : ExcName → Option Value} {mg mb : Str → Option Value} : ElemTells prog w p loose mean mg mb := by
  unfold ElemTells
  intro dp un gd cn cs a ccd cl outer A₀ base h₀ L m news s v tk Q E B F X N T hk hd hu hret
  refine wpAny_call ?_
  k_dflt (refine' code_defC ?k1 ?k2 ?k3 ?k4 ?k5 ?kA ?kF ?kK ?k6 ?k7 ?k8 ?k9 ?kB ?kD ?_ ?c2 ?c3 ?c4; (case kA => exact rfl); (case kF => exact rfl); (case kK => assumption); (case k1 => k_asm); (case k2 => k_asm); (case k3 => k_asm); (case k4 => k_asm); (case k5 => k_asm); (case k6 => k_is); (case k7 => k_is); (case k8 => ktr_room); (case k9 => exact BindsTo.of_eq rfl); (case kB => exact rfl); (case kD => decide +kernel); (case c2 => exact rfl); (case c3 => exact rfl); (case c4 => exact rfl); k_whole; intro g' L' h' tk' cells' FG' F' N' Y' B' X' T' l1; k_cells Y'; (try simp only [List.cons_append, List.nil_append] at N'); (try dsimp only); (try k_lift B'); (try k_fold))
  repeat' ((fail_if_success (with_reducible show wpAny _ _ (eval (Expr.ListComp _ _ _ _) _) _ _ _)); first | (k_unfold; (try dsimp only)) | walk1 | (dsimp only; walk1))
  refine LCt.ListComp_T (F₀ := by k_asm) (by with_unfolding_all rfl) (by decide) (by rfl) (by decide) (by rfl) ?_
  repeat' ((fail_if_success (with_reducible show LCt.CompSrcT _ _ _ _ _ _ _ _ _ _ _ _ _ _ _)); first | (k_unfold; (try dsimp only)) | walk1 | (dsimp only; walk1))
  refine LCt.CompSrcT.range (by rfl) (by k_asm) (by k_asm) (by assumption) (by decide) (by first | exact rangeSize_nat _ _ | rfl) (by exact Nat.le_of_ble_eq_true rfl) ?_
  intro g2
  refine kci_range (elStep v) (fun k t I oI C oC D m2 ys l h tk E' hlo hhi hI hC hx F2 N2 off ne hM => ?_) (fun ys hys hlen => ?_) (elStep_grows v)
  · dsimp only
    k_fold
    k_steps
    all_goals dsimp only [LCg.CompEnd]
    · exact ⟨_, _, _, rfl, (by assumption), (by assumption), off, trivial, kci_el (elStep_yes (by assumption)) rfl rfl⟩
    · exact ⟨_, _, _, rfl, (by assumption), (by assumption), off, trivial, kci_no (elStep_no (by assumption)) rfl⟩
  · unfold LCg.FinE
    intro D h2 tk2 F2 N2 off
    dsimp only
    refine leaveK_ F2 N2 fun F3 N3 => ?_
    exact hret _ _ _ _ F3 (fun p hp => N3 p (by rcases List.mem_cons.mp hp with rfl | hp; exact .head _; exact .tail _ (.tail _ hp))) off.2 hys hlen
end

-- Tk01
section
open PySem PySem.W PyProof.Rows PySem.Calls PySem.Spec

theorem fill2 : PySem.Challenge.rw_pb0304_01 = PySem.Challenge.rw_pb0304_01 ∧ hd.heap_39 = hd.heap_39 := by k_fill; exact ⟨rfl, rfl⟩

local macro_rules | `(tactic| units_room) => `(tactic| ((try simp only [units_in1, units_deeper, Around.mark_units]); (try dsimp only [ktrTop]); omega))

theorem pow7_log {e : Nat} (h : e ≤ 1000) : ((7 : Int) ^ e).natAbs.log2 < 9000 := by
  have e1 : ((7 : Int) ^ e).natAbs = 7 ^ e := by rw [Int.natAbs_pow]; rfl
  rw [e1]
  have h0 : 7 ^ e ≠ 0 := Nat.ne_of_gt (Nat.pow_pos (by decide))
  refine (Nat.log2_lt h0).mpr ?_
  have h1 : 7 ^ e ≤ 8 ^ e := Nat.pow_le_pow_left (by decide) e
  have h2 : (8 : Nat) ^ e = 2 ^ (3 * e) := by rw [show (8 : Nat) = 2 ^ 3 from rfl, ← Nat.pow_mul]
  have h3 : (2 : Nat) ^ (3 * e) < 2 ^ 9000 := Nat.pow_lt_pow_right (by decide) (by omega)
  omega
theorem mem_shift {q x y : Addr × Obj} {rest : List (Addr × Obj)} : ∀ p ∈ x :: rest, p ∈ q :: x :: y :: rest := by
  intro p hp
  rcases List.mem_cons.mp hp with rfl | hp
  · exact .tail _ (.head _)
  · exact .tail _ (.tail _ (.tail _ hp))

def TakeTells (prog : Program) (w : World) (p : Program) (loose : List Str) (mean : ExcName → Option Value) (mg mb : Str → Option Value) : Prop :=
  ∀ (dp un : Nat) (gd : Option (List Code)) (cn : Str) (cs : Scope) (a : Addr) (ccd : Value) (cl : List (Str × Addr)) (outer : List Env) (A₀ : Around) (base h₀ : Heap) (L : Addr) (m : Str → Option Value) (rest : List (Addr × Obj)) (s : Shared)
    (S R : Addr) (nS nR : Nat) (vs : List Value) (ns : List Int) (k : Int) (tk : Tok) (most : Int) (tm : Tok)
    (Q E : Value → Shared → Prop),
    Below A₀ base outer h₀ → Fr h₀ L s.heap m → (hd.heap_39 w.params).In h₀ → News h₀ L s.heap ((S, listOf #[.ref R, .int k tk] nS) :: rest) → Top p loose mean mg mb h₀ → cs.kind = .function → dp + 8 < recursionLimit → un + 200 < cLine →
    OwnOff rest [S] → (R, listOf vs.toArray nR) ∈ rest → IntsAre vs ns → ns.length ≤ 40 → 0 ≤ k → k ≤ 1000 → 0 < most →
    (∀ v t t' h' tk', 0 ≤ v → v < most → Fr h₀ L h' m → News h₀ L h' ((S, listOf #[.ref R, .int (k + 1) t'] nS) :: rest) → Q (.int v t) { s with heap := h', toks := tk' }) →
    wpAny (model prog w) (ktrTop dp un gd cn cs L a ccd cl outer) (call (.ref 42) [.ref S, .int most tm]) Q E s

theorem take_tells {prog : Program} {w : World} {p : Program} {loose : List Str} {mean : ExcName → Option Value} {mg mb : Str → Option Value} : TakeTells prog w p loose mean mg mb := by
  unfold TakeTells
  intro dp un gd cn cs a ccd cl outer A₀ base h₀ L m rest s S R nS nR vs ns k tk most tm Q E B F X N0 T hk hd hu hO hR hI hlen h0 h1 h2 hret
  have hSR : R ≠ S := hO _ hR S (.head _)
  have hO2 : OwnOff rest [S, R] → True := fun _ => trivial
  have N : News h₀ L s.heap ((S, listOf #[.ref R, .int k tk] nS) :: (R, listOf vs.toArray nR) :: rest) := fun p hp => N0 p (by
    rcases List.mem_cons.mp hp with rfl | hp
    · exact .head _
    · rcases List.mem_cons.mp hp with rfl | hp
      · exact .tail _ hR
      · exact .tail _ hp)
  clear N0
  have hlenV := hI.length
  by_cases hz : ns = []
  · subst hz
    refine wpAny_call ?_
    k_dflt cell_enter
    k_steps
    exact hret _ _ _ _ _ (by omega) h2 (by assumption) (kst_newsOf (by assumption) mem_shift)
  have hz' : 0 < (ns.length : Int) := by cases ns with
    | nil => exact absurd rfl hz
    | cons _ _ => simp only [List.length_cons]; omega
  have hzz : ns.length ≠ 0 := by omega
  refine wpAny_call ?_
  k_dflt cell_enter
  repeat' ((fail_if_success (with_reducible show wpAny _ _ (binaryOp Operator.Pow _ _) _ _ _)); first | (k_unfold; (try dsimp only)) | (exfalso; exact hz (of_decide_eq_true (by assumption))) | walk1 | (dsimp only; walk1))
  have hq0 : 0 ≤ k.fdiv (ns.length : Int) := by rw [Int.fdiv_eq_ediv_of_nonneg _ (by omega)]; exact Int.ediv_nonneg h0 (by omega)
  have hq1 : k.fdiv (ns.length : Int) ≤ 1000 := by
    rw [Int.fdiv_eq_ediv_of_nonneg _ (by omega)]
    exact Int.le_trans (Int.ediv_le_self _ h0) h1
  refine pow_int_small hq0 (by omega) (by decide) ?_
  have hP : (7 : Int) ^ (k.fdiv (ns.length : Int)).toNat ≠ 0 := Int.pow_ne_zero (by decide)
  have hL7 : ((7 : Int) ^ (k.fdiv (ns.length : Int)).toNat).natAbs.log2 < 9000 := pow7_log (by omega)
  generalize (7 : Int) ^ (k.fdiv (ns.length : Int)).toNat = P at hP hL7 ⊢
  refine floordiv_int hP ?_ (.inl (PyProof.noPylong_of_log2 hL7))
  have hm : most ≠ 0 := by omega
  k_steps
  all_goals exact hret _ _ _ _ _ (fmod_lo _ h2) (fmod_hi _ h2) (by assumption) (kst_newsOf (by assumption) mem_shift)
end

-- Pu01
section
open PySem PySem.W PyProof.Rows PySem.Calls PySem.Spec

theorem fill3 : PySem.Challenge.rw_pb0304_01 = PySem.Challenge.rw_pb0304_01 ∧ hd.heap_39 = hd.heap_39 := by k_fill; exact ⟨rfl, rfl⟩
local macro_rules | `(tactic| units_room) => `(tactic| ((try simp only [units_in1, units_deeper, Around.mark_units]); (try dsimp only [ktrTop]); omega))

/-- a def of no effect: the call at f with vs hands back an int v -/
def PureTells (prog : Program) (w : World) (p : Program) (loose : List Str) (mean : ExcName → Option Value) (mg mb : Str → Option Value) (f : Addr) (vs : List Value) (v : Int) : Prop :=
  ∀ (dp un : Nat) (gd : Option (List Code)) (cn : Str) (cs : Scope) (a : Addr) (ccd : Value) (cl : List (Str × Addr)) (outer : List Env) (A₀ : Around) (base h₀ : Heap) (L : Addr) (m : Str → Option Value) (news : List (Addr × Obj)) (s : Shared)
    (Q E : Value → Shared → Prop),
    Below A₀ base outer h₀ → Fr h₀ L s.heap m → (hd.heap_39 w.params).In h₀ → News h₀ L s.heap news → Top p loose mean mg mb h₀ → cs.kind = .function → dp + 8 < recursionLimit → un + 200 < cLine →
    (∀ t h' tk', Fr h₀ L h' m → News h₀ L h' news → Q (.int v t) { s with heap := h', toks := tk' }) →
    wpAny (model prog w) (ktrTop dp un gd cn cs L a ccd cl outer) (call (.ref f) vs) Q E s

theorem pure_use {prog : Program} {w : World} {p : Program} {loose : List Str} {mean : ExcName → Option Value} {mg mb : Str → Option Value} {f : Addr} {vs : List Value} {v : Int}
    {dp un : Nat} {gd : Option (List Code)} {cn : Str} {cs : Scope} {a : Addr} {ccd : Value} {cl : List (Str × Addr)} {outer : List Env} {A₀ : Around} {base h₀ : Heap} {L : Addr} {m : Str → Option Value} {news : List (Addr × Obj)} {s : Shared}
    {Q E : Value → Shared → Prop} (C : PureTells prog w p loose mean mg mb f vs v)
    (B : Below A₀ base outer h₀) (F : Fr h₀ L s.heap m) (X : (hd.heap_39 w.params).In h₀) (N : News h₀ L s.heap news) (T : Top p loose mean mg mb h₀) (hk : cs.kind = .function) (hd : dp + 8 < recursionLimit) (hu : un + 200 < cLine)
    (h : ∀ t h' tk', Fr h₀ L h' m → News h₀ L h' news → Q (.int v t) { s with heap := h', toks := tk' }) :
    wpAny (model prog w) (ktrTop dp un gd cn cs L a ccd cl outer) (call (.ref f) vs) Q E s := C _ _ _ _ _ _ _ _ _ _ _ _ _ _ _ _ _ _ B F X N T hk hd hu h

section
variable {prog : Program} {w : World} {p : Program} {loose : List Str} {mean : ExcName → Option Value} {mg mb : Str → Option Value}
def full : Int := 4294967295
def rmask (low high : Int) : Int := if high < low then 0 else 2 ^ (high + 1).toNat - 2 ^ low.toNat
def srel (a b : Int) : Int := if Builtin.bitAnd a (Builtin.bitXor full b) = 0 then 1 else 0

theorem set_plus (a b : Int) (to ta tb : Tok) : PureTells prog w p loose mean mg mb 21 [.str (PySem.Str.ofString "s+") to, .int a ta, .int b tb] (Builtin.bitOr a b) := by
  unfold PureTells
  intro dp un gd cn cs a' ccd cl outer A₀ base h₀ L m news s Q E B F X N T hk hd hu hret
  refine wpAny_call ?_
  k_dflt cell_enter
  k_steps
  all_goals (refine cb_retI (Q := Q) (s := s) hret ?_ (by assumption) (by first | assumption | exact kst_newsOf (by assumption) (fun _ hp => .tail _ hp)))
  all_goals (first | rfl | (unfold full; rfl))

theorem set_minus (a b : Int) (to ta tb : Tok) : PureTells prog w p loose mean mg mb 21 [.str (PySem.Str.ofString "s-") to, .int a ta, .int b tb] (Builtin.bitAnd a (Builtin.bitXor full b)) := by
  unfold PureTells
  intro dp un gd cn cs a' ccd cl outer A₀ base h₀ L m news s Q E B F X N T hk hd hu hret
  refine wpAny_call ?_
  k_dflt cell_enter
  k_steps
  all_goals (refine cb_retI (Q := Q) (s := s) hret ?_ (by assumption) (by first | assumption | exact kst_newsOf (by assumption) (fun _ hp => .tail _ hp)))
  all_goals (first | rfl | (unfold full; rfl))

theorem set_times (a b : Int) (to ta tb : Tok) : PureTells prog w p loose mean mg mb 21 [.str (PySem.Str.ofString "s*") to, .int a ta, .int b tb] (Builtin.bitAnd a b) := by
  unfold PureTells
  intro dp un gd cn cs a' ccd cl outer A₀ base h₀ L m news s Q E B F X N T hk hd hu hret
  refine wpAny_call ?_
  k_dflt cell_enter
  k_steps
  all_goals (refine cb_retI (Q := Q) (s := s) hret ?_ (by assumption) (by first | assumption | exact kst_newsOf (by assumption) (fun _ hp => .tail _ hp)))
  all_goals (first | rfl | (unfold full; rfl))

theorem set_over (a b : Int) (to ta tb : Tok) : PureTells prog w p loose mean mg mb 21 [.str (PySem.Str.ofString "s/") to, .int a ta, .int b tb] (Builtin.bitXor a b) := by
  unfold PureTells
  intro dp un gd cn cs a' ccd cl outer A₀ base h₀ L m news s Q E B F X N T hk hd hu hret
  refine wpAny_call ?_
  k_dflt cell_enter
  k_steps
  all_goals (refine cb_retI (Q := Q) (s := s) hret ?_ (by assumption) (by first | assumption | exact kst_newsOf (by assumption) (fun _ hp => .tail _ hp)))
  all_goals (first | rfl | (unfold full; rfl))

theorem rel_le (a b : Int) (to ta tb : Tok) : PureTells prog w p loose mean mg mb 28 [.str (PySem.Str.ofString "s<=") to, .int a ta, .int b tb] (srel a b) := by
  unfold PureTells
  intro dp un gd cn cs a' ccd cl outer A₀ base h₀ L m news s Q E B F X N T hk hd hu hret
  refine wpAny_call ?_
  k_dflt cell_enter
  k_steps
  all_goals (refine cb_retI (Q := Q) (s := s) hret ?_ (by assumption) (by first | assumption | exact kst_newsOf (by assumption) (fun _ hp => .tail _ hp)))
  all_goals (unfold srel full; simp_all)

theorem rel_ge (a b : Int) (to ta tb : Tok) : PureTells prog w p loose mean mg mb 28 [.str (PySem.Str.ofString "s>=") to, .int a ta, .int b tb] (srel b a) := by
  unfold PureTells
  intro dp un gd cn cs a' ccd cl outer A₀ base h₀ L m news s Q E B F X N T hk hd hu hret
  refine wpAny_call ?_
  k_dflt cell_enter
  k_steps
  all_goals (refine cb_retI (Q := Q) (s := s) hret ?_ (by assumption) (by first | assumption | exact kst_newsOf (by assumption) (fun _ hp => .tail _ hp)))
  all_goals (unfold srel full; simp_all)

theorem range_mask_tells (low high : Int) (tl th : Tok) (h0 : 0 ≤ low) (h1 : low < 32) (h2 : 0 ≤ high) (h3 : high < 32) : PureTells prog w p loose mean mg mb 35 [.int low tl, .int high th] (rmask low high) := by
  unfold PureTells
  intro dp un gd cn cs a' ccd cl outer A₀ base h₀ L m news s Q E B F X N T hk hd hu hret
  refine wpAny_call ?_
  k_dflt cell_enter
  k_steps
  all_goals (refine cb_retI (Q := Q) (s := s) hret ?_ (by assumption) (by first | assumption | exact kst_newsOf (by assumption) (fun _ hp => .tail _ hp)))
  all_goals (unfold rmask; (split <;> simp_all <;> omega))
end
end

-- Sd01
section
open PySem PySem.W PyProof.Rows PySem.Calls PySem.Spec

theorem keys_stored {kvs : List (Int × Value)} {k : Int} {v : Value} (x : Int) : x ∈ (stored kvs k v).map (·.1) ↔ x ∈ kvs.map (·.1) ∨ x = k := by
  unfold stored
  split
  · rename_i h
    have e : (kvs.map fun kv => if kv.1 = k then (kv.1, v) else kv).map (·.1) = kvs.map (·.1) := by
      rw [List.map_map]
      refine List.map_congr_left fun p _ => ?_
      show (if p.1 = k then (p.1, v) else p).1 = p.1
      split <;> rfl
    rw [e]
    refine ⟨.inl, fun h' => ?_⟩
    rcases h' with h' | rfl
    · exact h'
    · obtain ⟨p, hp, hq⟩ := List.any_eq_true.mp h
      have hq := of_decide_eq_true hq
      exact List.mem_map.mpr ⟨p, hp, hq⟩
  · rw [List.map_append, List.mem_append]
    simp

/-- the kit's word for «the keys of a dict, read off» holds of IntsAre -/
theorem keys_intsI : ∀ (kvs : List (Int × Value)) (C : List Value → Prop), (∀ vs, IntsAre vs (kvs.map (·.1)) → C vs) → KdlKeysI kvs C := by
  intro kvs
  induction kvs with
  | nil => exact fun C h => h [] .nil
  | cons q r ih => exact fun C h t => ih (fun vs => C (.int q.1 t :: vs)) fun vs hvs => h _ (.cons q.1 t hvs)
theorem ints_of_keys {prog : Program} {w : World} {kvs : List (Int × Value)} {vs : List Value} (hl : vs.length = kvs.length)
    (hv : ∀ (j : Nat) (v : Value), vs[j]? = some v → ∃ k x, kvs[j]? = some (k, x) ∧ (PySem.intKind prog w).is k v = true) : IntsAre vs (kvs.map (·.1)) :=
  kdl_openI (keys_intsI kvs (fun vs => IntsAre vs (kvs.map (·.1))) fun _ h => h) vs hl fun j u hu =>
    let ⟨k, x, e, hk⟩ := hv j u hu
    ⟨k, x, e, Value.isInt_shape hk⟩

theorem sorted_dict {prog : Program} {w : World} {A : Around} {E : Value → Shared → Prop} {s : Shared} {h₀ : Heap} {L d : Addr} {m : Str → Option Value} {news : List (Addr × Obj)} {o : Obj} {kvs : List (Int × Value)} {Q : Value → Shared → Prop}
    (hh : A.handled = none) (F : Fr h₀ L s.heap m) (N : News h₀ L s.heap news) (hp : (d, o) ∈ news) (hd : o.IsDictOf (PySem.intKind prog w) kvs) (lo : (d == sysModules) = false) (hn : kvs.length < 64)
    (h : ∀ (B : Addr) h' tk vs ns c, Fr h₀ L h' m → News h₀ L h' ((B, listOf vs.toArray c) :: news) → (∀ q ∈ news, q.1 < B) → IntsAre vs ns → ns.Perm (kvs.map (·.1)) → ns.Pairwise (· ≤ ·) → Q (.ref B) { s with heap := h', toks := tk }) :
    wpAny (model prog w) A (call (.builtin "sorted") [.ref d]) Q E s := by
  obtain ⟨ep, hat⟩ := (kda_dict N hp hd).dictAt
  refine kdu_sorted (kdl_dict (knd := PySem.intKind prog w) (kvs := kvs) (ep := ep) lo) hh F N hat (kdl_size (by omega)) fun B h' tk vs F' N' l1 hl hv => ?_
  have hI := ints_of_keys hl hv
  have z := N' _ (.head _)
  refine wpAny_call_entry PyProof.Rows.slot_list_sort ⟨_, z.1, rfl⟩ PyProof.Rows.entry_list_sort (list_sort_tree (n := 0) (vs := vs) z.1 hI (by omega) fun out ns' hI' hp' hP => ⟨.none, rfl, ?_⟩) (PyProof.Rows.args_list_sort _)
  obtain ⟨e, he⟩ := sortedHeap_at (out := out) z.1
  have old : ∀ b o, b ≠ B → h'.get? b = some o → (sortedHeap h' B vs out).get? b = some o := fun b o hb e => (sortedHeap_old hb (Heap.lt_size e)).trans e
  have N2 : News h₀ L (sortedHeap h' B vs out) ((B, listOf out.toList.toArray e) :: news) := by
    intro p hp
    rcases List.mem_cons.mp hp with rfl | hp
    · exact ⟨by rw [Array.toArray_toList]; exact he, z.2⟩
    · have y := N' p (.tail _ hp)
      exact ⟨old _ _ (Nat.ne_of_lt (l1 p hp)) y.1, y.2⟩
  have F2 : Fr h₀ L (sortedHeap h' B vs out) m := by
    obtain ⟨oL, a1, a2, hL, a3⟩ := F'.ns
    refine ⟨⟨oL, a1, a2, old _ _ (fun e => z.2.1 e.symm) hL, a3⟩, fun b o e => old _ _ (fun eb => ?_) (F'.keep b o e), F'.above⟩
    subst eb
    rw [z.2.2] at e
    cases e
  exact h B _ tk out.toList ns' e F2 N2 l1 hI' hp' hP
end

-- Us01
section
open PySem PySem.W PyProof.Rows PySem.Calls PySem.Spec

theorem take_use {prog : Program} {w : World} {p : Program} {loose : List Str} {mean : ExcName → Option Value} {mg mb : Str → Option Value}
    {dp un : Nat} {gd : Option (List Code)} {cn : Str} {cs : Scope} {a : Addr} {ccd : Value} {cl : List (Str × Addr)} {outer : List Env} {A₀ : Around} {base h₀ : Heap} {L : Addr} {m : Str → Option Value} {news rest : List (Addr × Obj)} {s : Shared}
    {S R : Addr} {nS nR : Nat} {vs : List Value} {ns : List Int} {k : Int} {tk : Tok} {most : Int} {tm : Tok} {Q E : Value → Shared → Prop} (i : Nat)
    (B : Below A₀ base outer h₀) (F : Fr h₀ L s.heap m) (X : (hd.heap_39 w.params).In h₀) (N : News h₀ L s.heap news) (T : Top p loose mean mg mb h₀) (hk : cs.kind = .function) (hd : dp + 8 < recursionLimit) (hu : un + 200 < cLine)
    (he : news[i]? = some (S, listOf #[.ref R, .int k tk] nS)) (hr : news.eraseIdx i = rest) (hO : OwnOff rest [S]) (hR : (R, listOf vs.toArray nR) ∈ rest) (hI : IntsAre vs ns) (hl : ns.length ≤ 40) (h0 : 0 ≤ k) (h1 : k ≤ 1000) (h2 : 0 < most)
    (h : ∀ v t t' h' tk', 0 ≤ v → v < most → Fr h₀ L h' m → News h₀ L h' ((S, listOf #[.ref R, .int (k + 1) t'] nS) :: rest) → Q (.int v t) { s with heap := h', toks := tk' }) :
    wpAny (model prog w) (ktrTop dp un gd cn cs L a ccd cl outer) (call (.ref 42) [.ref S, .int most tm]) Q E s := by
  refine take_tells _ _ _ _ _ _ _ _ _ _ _ _ _ _ _ _ _ _ _ _ _ _ _ _ _ _ _ _ B F X (kst_newsOf (l' := (S, listOf #[.ref R, .int k tk] nS) :: rest) N ?_) T hk hd hu hO hR hI hl h0 h1 h2 h
  intro p hp
  rcases List.mem_cons.mp hp with rfl | hp
  · exact List.mem_of_getElem? he
  · rw [← hr] at hp
    exact List.mem_of_mem_eraseIdx hp

theorem elem_use {prog : Program} {w : World} {p : Program} {loose : List Str} {mean : ExcName → Option Value} {mg mb : Str → Option Value}
    {dp un : Nat} {gd : Option (List Code)} {cn : Str} {cs : Scope} {a : Addr} {ccd : Value} {cl : List (Str × Addr)} {outer : List Env} {A₀ : Around} {base h₀ : Heap} {L : Addr} {m : Str → Option Value} {news : List (Addr × Obj)} {s : Shared} {v : Int} {tk : Tok} {Q E : Value → Shared → Prop}
    (B : Below A₀ base outer h₀) (F : Fr h₀ L s.heap m) (X : (hd.heap_39 w.params).In h₀) (N : News h₀ L s.heap news) (T : Top p loose mean mg mb h₀) (hk : cs.kind = .function) (hd : dp + 8 < recursionLimit) (hu : un + 200 < cLine)
    (h : ∀ q ys h' tk', Fr h₀ L h' m → News h₀ L h' ((q, LCg.lst ys) :: news) → LCg.Off1 q news → IntsAre ys (els v) → ys.length ≤ 40 → Q (.ref q) { s with heap := h', toks := tk' }) :
    wpAny (model prog w) (ktrTop dp un gd cn cs L a ccd cl outer) (call (.ref 47) [.int v tk]) Q E s :=
  elem_tells _ _ _ _ _ _ _ _ _ _ _ _ _ _ _ _ _ _ _ _ B F X N T hk hd hu h
end

-- Rg01
section
open PySem PySem.W PyProof.Rows PySem.Calls PySem.Spec PyProof.V
section
variable {prog : Program} {w : World} {A : Around} {E : Value → Shared → Prop} {s : Shared} {env : Env} {h₀ : Heap} {x : Str} {body : List Stmt} {Q : Flow → Shared → Prop}

theorem off_of_tb {own nx : List (Addr × Obj)} (h : TbOff own nx) : OwnOff own (nx.map (·.1)) := by
  intro p hp b hb
  rcases List.mem_map.mp hb with ⟨q, hq, e⟩
  exact e ▸ h p hp q hq
theorem tb_of_inv {L : Addr} {J : (Str → Option Value) → List (Addr × Obj) → Prop} {own : List (Addr × Obj)} {s₁ s₂ : Shared} (p : InvEndG h₀ L J own s₁ s₂) : TbEnd h₀ L J own s₁ s₂ := by
  obtain ⟨h', tk, m', news', nx, e, a, b, c, d, off, j⟩ := p
  exact ⟨h', tk, m', news', nx, e, a, b, c, d, fun p hp q hq => off p hp q.1 (List.mem_map_of_mem hq), j⟩

/-- a loop over a range, its turns keeping a word J of the frame and the ledger; the ledger may grow -/
theorem range_invG {r : Addr} {a₀ b₀ : Int} {t₀ u₀ v₀ : Tok} {n : Nat} {m₀ : Str → Option Value} {news : List (Addr × Obj)} (J : Nat → (Str → Option Value) → List (Addr × Obj) → Prop)
    (hh : A.handled = none) (hr : IsRange s.heap r a₀ b₀ 1 t₀ u₀ v₀) (hsmall : Builtin.Range.small a₀ b₀ 1 = true) (hn : Builtin.Range.rangeSize a₀ b₀ 1 = (n : Int)) (F : Fr h₀ env.locals s.heap m₀) (N : News h₀ env.locals s.heap news) (hj : J 0 m₀ news)
    (turn : ∀ (i : Nat) t m₁ news₁ h tk own, i < n → OwnOff own (news₁.map (·.1)) → J i m₁ news₁ → Fr h₀ env.locals h (fun y => if y = x then some (.int (a₀ + (i : Int)) t) else m₁ y) → News h₀ env.locals h (news₁ ++ own) →
      wpAny (model prog w) A (execs body env) (InvPostG h₀ env.locals (J (i + 1)) own { s with heap := h, toks := tk } Q) E { s with heap := h, toks := tk })
    (done : ∀ m₁ news₁ h tk, J n m₁ news₁ → Fr h₀ env.locals h m₁ → News h₀ env.locals h news₁ → Q .next { s with heap := h, toks := tk }) :
    wpAny (model prog w) A (pyIter (.ref r)) (fun it s₂ => LoopAtV prog w A h₀ env x body Q E it s₂) E s := by
  refine tbr_invG J hh hr hsmall hn F N hj (fun i k t m₁ nx h tk own hk hoff hJ F₁ N₁ => ?_) done
  obtain ⟨hi, hv⟩ := List.getElem?_eq_some_iff.mp hk
  rw [rangeKs_length] at hi
  have hk' : k = a₀ + (i : Int) := by rw [← hv]; simp [rangeKs]
  subst hk'
  refine wpAny_mono (turn i t m₁ nx h tk own hi (off_of_tb hoff) hJ F₁ N₁) (fun f s₂ p => ?_) fun _ _ e => e
  cases f with
  | ret v => exact p
  | brk => exact p
  | next => exact tb_of_inv p
  | cont => exact tb_of_inv p
end
end

-- Lp01
section
open PySem PySem.W PyProof.Rows PySem.Calls PySem.Spec PyProof.V

theorem nodup_len : ∀ (n : Nat) (l : List Int), l.Nodup → (∀ x ∈ l, 0 ≤ x ∧ x < (n : Int)) → l.length ≤ n
  | 0, [], _, _ => Nat.le_refl _
  | 0, x :: _, _, h => by have := h x (.head _); omega
  | n + 1, l, hn, h => by
    have h1 : (l.filter (fun x => decide (x ≠ (n : Int)))).length ≤ n := nodup_len n _ (hn.filter _) fun x hx => by
      have hx := List.mem_filter.mp hx
      have h2 := h x hx.1
      have h3 := of_decide_eq_true hx.2
      omega
    have h2 : ∀ (l : List Int), l.Nodup → l.length ≤ (l.filter (fun x => decide (x ≠ (n : Int)))).length + 1 := by
      intro l
      induction l with
      | nil => intro _; simp
      | cons a l ih =>
        intro hn
        have hn' := List.nodup_cons.mp hn
        by_cases e : a = (n : Int)
        · have e2 : l.filter (fun x => decide (x ≠ (n : Int))) = l := List.filter_eq_self.mpr fun x hx => decide_eq_true fun e3 => hn'.1 (by rw [e, ← e3]; exact hx)
          rw [List.filter_cons_of_neg (by simp [e]), e2]
          simp
        · rw [List.filter_cons_of_pos (by simp [e])]
          have := ih hn'.2
          simp only [List.length_cons]; omega
    have := h2 l hn
    omega

theorem keys_len {prog : Program} {w : World} {o : Obj} {kvs : List (Int × Value)} (hd : o.IsDictOf (PySem.intKind prog w) kvs) (h : ∀ x ∈ kvs.map (·.1), 0 ≤ x ∧ x < 32) : kvs.length ≤ 32 := by
  obtain ⟨_, _, _, _, _, _, hn⟩ := hd
  have := nodup_len 32 _ hn h
  simpa using this

theorem fr_knows {h₀ h : Heap} {L : Addr} {m : Str → Option Value} {x : Str} {v : Value} (ps : List (Str × Value)) (hk : ∀ p ∈ ps, m p.1 = some p.2) (F : Fr h₀ L h (fun y => if y = x then some v else m y)) :
    Fr h₀ L h (fun y => if y = x then some v else kstB m ps y) := by
  have e : kstB m ps = m := funext fun z => kstB_eq hk fun _ => rfl
  rw [e]; exact F
theorem fr_knows0 {h₀ h : Heap} {L : Addr} {m : Str → Option Value} (ps : List (Str × Value)) (hk : ∀ p ∈ ps, m p.1 = some p.2) (F : Fr h₀ L h m) :
    Fr h₀ L h (kstB m ps) := by
  have e : kstB m ps = m := funext fun z => kstB_eq hk fun _ => rfl
  rw [e]; exact F

section
variable {prog : Program} {w : World} {A : Around} {E : Value → Shared → Prop} {s : Shared} {env : Env} {h₀ : Heap} {x : Str} {body : List Stmt} {Q : Flow → Shared → Prop}

/-- the inner loop's word: all names but x stand; the dict has the keys it had and those of the range so far -/
def AtJ (prog : Program) (w : World) (x : Str) (m₀ : Str → Option Value) (dH : Addr) (kvs₀ : List (Int × Value)) (rest : List (Addr × Obj)) (a₀ : Int) (i : Nat) (m : Str → Option Value) (nx : List (Addr × Obj)) : Prop :=
  (∀ z, z ≠ x → m z = m₀ z) ∧ ∃ o kvs, nx = (dH, o) :: rest ∧ o.IsDictOf (PySem.intKind prog w) kvs ∧ ∀ y, y ∈ kvs.map (·.1) ↔ y ∈ kvs₀.map (·.1) ∨ (a₀ ≤ y ∧ y < a₀ + (i : Int))

theorem at_loop {r : Addr} {a₀ b₀ : Int} {t₀ u₀ v₀ : Tok} {n : Nat} {m₀ : Str → Option Value} {news : List (Addr × Obj)} (dH : Addr) (o₀ : Obj) (kvs₀ : List (Int × Value)) (rest : List (Addr × Obj))
    (hh : A.handled = none) (hr : IsRange s.heap r a₀ b₀ 1 t₀ u₀ v₀) (hsmall : Builtin.Range.small a₀ b₀ 1 = true) (hn : Builtin.Range.rangeSize a₀ b₀ 1 = (n : Int)) (F : Fr h₀ env.locals s.heap m₀) (N : News h₀ env.locals s.heap news)
    (hN : ∀ p ∈ (dH, o₀) :: rest, p ∈ news) (hoff : OwnOff rest [dH]) (hd : o₀.IsDictOf (PySem.intKind prog w) kvs₀) (h0 : 0 ≤ a₀) (h32 : a₀ + (n : Int) ≤ 32) (hk : ∀ y ∈ kvs₀.map (·.1), 0 ≤ y ∧ y < 32)
    (turn : ∀ (i : Nat) (t : Tok) (o : Obj) (kvs : List (Int × Value)) (m₁ : Str → Option Value) (h : Heap) (tk : Nat) (ow own : List (Addr × Obj)), i < n → OwnOff own (dH :: rest.map (·.1)) → ow = rest ++ own → OwnOff ow [dH] → (∀ z, z ≠ x → m₁ z = m₀ z) → o.IsDictOf (PySem.intKind prog w) kvs → kvs.length ≤ sizeLine → (∀ y, y ∈ kvs.map (·.1) ↔ y ∈ kvs₀.map (·.1) ∨ (a₀ ≤ y ∧ y < a₀ + (i : Int))) → Fr h₀ env.locals h (fun y => if y = x then some (.int (a₀ + (i : Int)) t) else m₀ y) → News h₀ env.locals h ((dH, o) :: ow) →
      wpAny (model prog w) A (execs body env) (InvPostG h₀ env.locals (AtJ prog w x m₀ dH kvs₀ rest a₀ (i + 1)) own { s with heap := h, toks := tk } Q) E { s with heap := h, toks := tk })
    (done : ∀ (u : Str → Option Value) (o : Obj) (kvs : List (Int × Value)) (h : Heap) (tk : Nat), o.IsDictOf (PySem.intKind prog w) kvs → (∀ y, y ∈ kvs.map (·.1) ↔ y ∈ kvs₀.map (·.1) ∨ (a₀ ≤ y ∧ y < a₀ + (n : Int))) → Fr h₀ env.locals h (fun y => if y = x then u y else m₀ y) → News h₀ env.locals h ((dH, o) :: rest) → Q .next { s with heap := h, toks := tk }) :
    wpAny (model prog w) A (pyIter (.ref r)) (fun it s₂ => LoopAtV prog w A h₀ env x body Q E it s₂) E s := by
  refine range_invG (AtJ prog w x m₀ dH kvs₀ rest a₀) hh hr hsmall hn F (kst_newsOf N hN) ⟨fun _ _ => rfl, o₀, kvs₀, rfl, hd, fun y => ⟨.inl, fun h => h.elim id fun h => by omega⟩⟩ ?_ ?_
  · rintro i t m₁ _ h tk own hi hown ⟨hm, o, kvs, rfl, hd', hy⟩ F₁ N₁
    have e : (fun y => if y = x then some (Value.int (a₀ + (i : Int)) t) else m₁ y) = fun y => if y = x then some (Value.int (a₀ + (i : Int)) t) else m₀ y := by
      funext z
      by_cases h1 : z = x
      · simp [h1]
      · simp only [if_neg h1]; exact hm z h1
    rw [e] at F₁
    have hlen := keys_len hd' fun y hy' => ((hy y).mp hy').elim (hk y) fun h => by omega
    refine turn i t o kvs m₁ h tk (rest ++ own) own hi hown rfl ?_ hm hd' (kdl_size (by omega)) hy F₁ N₁
    intro p hp b hb
    rcases List.mem_append.mp hp with hp | hp
    · exact hoff p hp b hb
    · exact hown p hp b (by rw [List.mem_singleton.mp hb]; exact .head _)
  · rintro m₁ _ h tk ⟨hm, o, kvs, rfl, hd', hy⟩ F₁ N₁
    refine done m₁ o kvs h tk hd' hy ?_ N₁
    have e : (fun z => if z = x then m₁ z else m₀ z) = m₁ := by
      funext z
      by_cases h1 : z = x
      · simp [h1]
      · simp only [if_neg h1]; exact (hm z h1).symm
    rw [e]; exact F₁

theorem at_end {m₀ m' : Str → Option Value} {dH : Addr} {kvs₀ kvs : List (Int × Value)} {rest own ow : List (Addr × Obj)} {a₀ : Int} {i : Nat} {L : Addr} {s₁ : Shared} {h' : Heap} {tk : Nat} {o' : Obj} {v : Value}
    (F : Fr h₀ L h' m') (N : News h₀ L h' ((dH, o') :: ow)) (hown : OwnOff own (dH :: rest.map (·.1))) (how : ow = rest ++ own) (hm : ∀ z, z ≠ x → m' z = m₀ z) (hd : o'.IsDictOf (PySem.intKind prog w) (stored kvs (a₀ + (i : Int)) v))
    (hy : ∀ y, y ∈ kvs.map (·.1) ↔ y ∈ kvs₀.map (·.1) ∨ (a₀ ≤ y ∧ y < a₀ + (i : Int))) :
    InvEndG h₀ L (AtJ prog w x m₀ dH kvs₀ rest a₀ (i + 1)) own s₁ { s₁ with heap := h', toks := tk } := by
  subst how
  refine InvEndG.intro (nx := (dH, o') :: rest) F N ⟨hm, o', _, rfl, hd, fun y => ?_⟩ hown ?_ ?_
  · rw [keys_stored, hy]
    constructor
    · rintro ((h | h) | h)
      · exact .inl h
      · exact .inr (by omega)
      · exact .inr (by omega)
    · rintro (h | h)
      · exact .inl (.inl h)
      · by_cases e : y = a₀ + (i : Int)
        · exact .inr e
        · exact .inl (.inr (by omega))
  · intro p hp
    rcases List.mem_cons.mp hp with rfl | hp
    · exact .head _
    · exact .tail _ (List.mem_append.mpr (.inl hp))
  · intro p hp
    exact .tail _ (List.mem_append.mpr (.inr hp))

/-- the keys are the elements -/
def Row (kvs : List (Int × Value)) (total : Int) : Prop := 0 ≤ total ∧ total < 4294967296 ∧ ∀ x, x ∈ kvs.map (·.1) ↔ x ∈ els total

/-- the step loop's word -/
def StepJ (prog : Program) (w : World) (S Mk dH : Addr) (R : Addr) (nS : Nat) (rest : List (Addr × Obj)) (k₀ : Int) (i : Nat) (m : Str → Option Value) (nx : List (Addr × Obj)) : Prop :=
  ∃ (total : Int) (tt : Tok) (k : Int) (tk : Tok) (o : Obj) (kvs : List (Int × Value)), (∀ p ∈ ([(Str.ofString "state", .ref S), (Str.ofString "masks", .ref Mk), (Str.ofString "having", .ref dH), (Str.ofString "total", .int total tt)] : List (Str × Value)), m p.1 = some p.2) ∧
    nx = (S, listOf #[.ref R, .int k tk] nS) :: (dH, o) :: rest ∧ k = k₀ + 2 * (i : Int) ∧ o.IsDictOf (PySem.intKind prog w) kvs ∧ Row kvs total

theorem step_loop {r : Addr} {a₀ b₀ : Int} {t₀ u₀ v₀ : Tok} {n : Nat} {m₀ : Str → Option Value} {news : List (Addr × Obj)} (S Mk dH R : Addr) (nS : Nat) (k₀ : Int) (tk₀ tt₀ : Tok) (o₀ oR : Obj) (rest : List (Addr × Obj))
    (hh : A.handled = none) (hr : IsRange s.heap r a₀ b₀ 1 t₀ u₀ v₀) (hsmall : Builtin.Range.small a₀ b₀ 1 = true) (hn : Builtin.Range.rangeSize a₀ b₀ 1 = (n : Int)) (F : Fr h₀ env.locals s.heap m₀) (N : News h₀ env.locals s.heap news)
    (hN : ∀ p ∈ (S, listOf #[.ref R, .int k₀ tk₀] nS) :: (dH, o₀) :: rest, p ∈ news) (hRm : (R, oR) ∈ rest) (hoff : OwnOff rest [S, dH]) (hd : o₀.IsDictOf (PySem.intKind prog w) [])
    (hm1 : m₀ (Str.ofString "state") = some (.ref S)) (hm2 : m₀ (Str.ofString "masks") = some (.ref Mk)) (hm3 : m₀ (Str.ofString "having") = some (.ref dH)) (hm4 : m₀ (Str.ofString "total") = some (.int 0 tt₀))
    (he : els 0 = [])
    (turn : ∀ (i : Nat) (t : Tok) (total : Int) (tt : Tok) (k : Int) (tk' : Tok) (o : Obj) (kvs : List (Int × Value)) (m₁ : Str → Option Value) (h : Heap) (tk : Nat) (ow own : List (Addr × Obj)), i < n → OwnOff own (S :: dH :: rest.map (·.1)) → ow = rest ++ own → OwnOff ow [S, dH] → (R, oR) ∈ ow → k = k₀ + 2 * (i : Int) → o.IsDictOf (PySem.intKind prog w) kvs → Row kvs total →
      Fr h₀ env.locals h (fun y => if y = x then some (.int (a₀ + (i : Int)) t) else kstB m₁ [(Str.ofString "state", .ref S), (Str.ofString "masks", .ref Mk), (Str.ofString "having", .ref dH), (Str.ofString "total", .int total tt)] y) → News h₀ env.locals h ((S, listOf #[.ref R, .int k tk'] nS) :: (dH, o) :: ow) →
      wpAny (model prog w) A (execs body env) (InvPostG h₀ env.locals (StepJ prog w S Mk dH R nS rest k₀ (i + 1)) own { s with heap := h, toks := tk } Q) E { s with heap := h, toks := tk })
    (done : ∀ (m₁ : Str → Option Value) (total : Int) (tt : Tok) (k : Int) (tk' : Tok) (o : Obj) (kvs : List (Int × Value)) (h : Heap) (tk : Nat), k = k₀ + 2 * (n : Int) → o.IsDictOf (PySem.intKind prog w) kvs → Row kvs total →
      Fr h₀ env.locals h (kstB m₁ [(Str.ofString "state", .ref S), (Str.ofString "masks", .ref Mk), (Str.ofString "having", .ref dH), (Str.ofString "total", .int total tt)]) → News h₀ env.locals h ((S, listOf #[.ref R, .int k tk'] nS) :: (dH, o) :: rest) → Q .next { s with heap := h, toks := tk }) :
    wpAny (model prog w) A (pyIter (.ref r)) (fun it s₂ => LoopAtV prog w A h₀ env x body Q E it s₂) E s := by
  refine range_invG (StepJ prog w S Mk dH R nS rest k₀) hh hr hsmall hn F (kst_newsOf N hN) ⟨0, tt₀, k₀, tk₀, o₀, [], List.forall_mem_cons.mpr ⟨hm1, List.forall_mem_cons.mpr ⟨hm2, List.forall_mem_cons.mpr ⟨hm3, List.forall_mem_cons.mpr ⟨hm4, List.forall_mem_nil _⟩⟩⟩⟩, rfl, by simp, hd, by decide, by decide, by rw [he]; simp⟩ ?_ ?_
  · rintro i t m₁ _ h tk own hi hown ⟨total, tt, k, tk', o, kvs, hm₁, rfl, hk, hd', hR⟩ F₁ N₁
    refine turn i t total tt k tk' o kvs m₁ h tk (rest ++ own) own hi hown rfl ?_ (List.mem_append.mpr (.inl hRm)) hk hd' hR (fr_knows _ hm₁ F₁) N₁
    intro p hp b hb
    rcases List.mem_append.mp hp with hp | hp
    · exact hoff p hp b hb
    · refine hown p hp b ?_
      rcases List.mem_cons.mp hb with rfl | hb
      · exact .head _
      · rw [List.mem_singleton.mp hb]; exact .tail _ (.head _)
  · rintro m₁ _ h tk ⟨total, tt, k, tk', o, kvs, hm₁, rfl, hk, hd', hR⟩ F₁ N₁
    exact done m₁ total tt k tk' o kvs h tk hk hd' hR (fr_knows0 _ hm₁ F₁) N₁

theorem step_end {m' : Str → Option Value} {S Mk dH R : Addr} {nS : Nat} {k₀ k total : Int} {tk' tt : Tok} {kvs : List (Int × Value)} {rest own ow news' : List (Addr × Obj)} {i : Nat} {L : Addr} {s₁ : Shared} {h' : Heap} {tk : Nat} {o' : Obj}
    (F : Fr h₀ L h' m') (N : News h₀ L h' news') (hN : ∀ p ∈ (S, listOf #[.ref R, .int k tk'] nS) :: (dH, o') :: ow, p ∈ news') (hown : OwnOff own (S :: dH :: rest.map (·.1))) (how : ow = rest ++ own)
    (hm1 : m' (Str.ofString "state") = some (.ref S)) (hm2 : m' (Str.ofString "masks") = some (.ref Mk)) (hm3 : m' (Str.ofString "having") = some (.ref dH)) (hm4 : m' (Str.ofString "total") = some (.int total tt))
    (hk : k = k₀ + 2 * ((i + 1 : Nat) : Int)) (hd : o'.IsDictOf (PySem.intKind prog w) kvs) (hR : Row kvs total) :
    InvEndG h₀ L (StepJ prog w S Mk dH R nS rest k₀ (i + 1)) own s₁ { s₁ with heap := h', toks := tk } := by
  subst how
  refine InvEndG.intro (nx := (S, listOf #[.ref R, .int k tk'] nS) :: (dH, o') :: rest) F N ⟨total, tt, k, tk', o', kvs, List.forall_mem_cons.mpr ⟨hm1, List.forall_mem_cons.mpr ⟨hm2, List.forall_mem_cons.mpr ⟨hm3, List.forall_mem_cons.mpr ⟨hm4, List.forall_mem_nil _⟩⟩⟩⟩, rfl, hk, hd, hR⟩ hown (fun p hp => hN p ?_) (fun p hp => hN p ?_)
  · rcases List.mem_cons.mp hp with rfl | hp
    · exact .head _
    rcases List.mem_cons.mp hp with rfl | hp
    · exact .tail _ (.head _)
    · exact .tail _ (.tail _ (List.mem_append.mpr (.inl hp)))
  · exact .tail _ (.tail _ (List.mem_append.mpr (.inr hp)))

/-- the outer loop's word -/
def GoJ (S R Mk Rw : Addr) (nS : Nat) (fixed : List (Addr × Obj)) (i : Nat) (m : Str → Option Value) (nx : List (Addr × Obj)) : Prop :=
  (∀ p ∈ ([(Str.ofString "state", .ref S), (Str.ofString "masks", .ref Mk)] : List (Str × Value)), m p.1 = some p.2) ∧
  ∃ (k : Int) (tk : Tok) (vs : List Value) (ms : List Int) (nM : Nat) (qs : List Addr) (nQ : Nat) (rl : List (Addr × Obj)), nx = (S, listOf #[.ref R, .int k tk] nS) :: (Mk, listOf (List.toArray vs) nM) :: (Rw, listOf (List.toArray (qs.map Value.ref)) nQ) :: (fixed ++ rl) ∧ OwnOff rl [S, Mk, Rw] ∧
    0 ≤ k ∧ k ≤ 9 * (i : Int) ∧ IntsAre vs ms ∧ ms.length = i ∧ qs.length = i ∧ (∀ z ∈ ms, 0 ≤ z ∧ z < 4294967296) ∧
    (∀ (j : Nat) q, qs[j]? = some q → ∃ ys n, (q, listOf (List.toArray ys) n) ∈ rl ∧ IntsAre ys (els (ms.getD j 0)))

theorem go_loop {r : Addr} {a₀ b₀ : Int} {t₀ u₀ v₀ : Tok} {n : Nat} {m₀ : Str → Option Value} {news : List (Addr × Obj)} (S R Mk Rw : Addr) (nS nM nQ : Nat) (tk₀ : Tok) (fixed : List (Addr × Obj))
    (hh : A.handled = none) (hr : IsRange s.heap r a₀ b₀ 1 t₀ u₀ v₀) (hsmall : Builtin.Range.small a₀ b₀ 1 = true) (hn : Builtin.Range.rangeSize a₀ b₀ 1 = (n : Int)) (F : Fr h₀ env.locals s.heap m₀) (N : News h₀ env.locals s.heap news)
    (hN : ∀ p ∈ (S, listOf #[.ref R, .int 0 tk₀] nS) :: (Mk, listOf (List.toArray []) nM) :: (Rw, listOf (List.toArray []) nQ) :: fixed, p ∈ news) (hoff : OwnOff fixed [S, Mk, Rw])
    (hm1 : m₀ (Str.ofString "state") = some (.ref S)) (hm2 : m₀ (Str.ofString "masks") = some (.ref Mk))
    (turn : ∀ (i : Nat) (t : Tok) (k : Int) (tk' : Tok) (vs : List Value) (ms : List Int) (nM : Nat) (qs : List Addr) (nQ : Nat) (rl : List (Addr × Obj)) (m₁ : Str → Option Value) (h : Heap) (tk : Nat) (ow own : List (Addr × Obj)), i < n → OwnOff own (S :: Mk :: Rw :: (fixed ++ rl).map (·.1)) → OwnOff rl [S, Mk, Rw] → ow = rl ++ own → OwnOff ow [S, Mk, Rw] → 0 ≤ k → k ≤ 9 * (i : Int) → IntsAre vs ms → ms.length = i → qs.length = i → (∀ z ∈ ms, 0 ≤ z ∧ z < 4294967296) →
      (∀ (j : Nat) q, qs[j]? = some q → ∃ ys n, (q, listOf (List.toArray ys) n) ∈ rl ∧ IntsAre ys (els (ms.getD j 0))) →
      Fr h₀ env.locals h (fun y => if y = x then some (.int (a₀ + (i : Int)) t) else kstB m₁ [(Str.ofString "state", .ref S), (Str.ofString "masks", .ref Mk)] y) → News h₀ env.locals h ((S, listOf #[.ref R, .int k tk'] nS) :: (Mk, listOf (List.toArray vs) nM) :: (Rw, listOf (List.toArray (qs.map Value.ref)) nQ) :: (fixed ++ ow)) →
      wpAny (model prog w) A (execs body env) (InvPostG h₀ env.locals (GoJ S R Mk Rw nS fixed (i + 1)) own { s with heap := h, toks := tk } Q) E { s with heap := h, toks := tk })
    (done : ∀ (m₁ : Str → Option Value) (k : Int) (tk' : Tok) (vs : List Value) (ms : List Int) (nM : Nat) (qs : List Addr) (nQ : Nat) (rl : List (Addr × Obj)) (h : Heap) (tk : Nat), IntsAre vs ms → ms.length = n → qs.length = n → (∀ z ∈ ms, 0 ≤ z ∧ z < 4294967296) → OwnOff rl [S, Mk, Rw] →
      (∀ (j : Nat) q, qs[j]? = some q → ∃ ys n, (q, listOf (List.toArray ys) n) ∈ rl ∧ IntsAre ys (els (ms.getD j 0))) →
      Fr h₀ env.locals h (kstB m₁ [(Str.ofString "state", .ref S), (Str.ofString "masks", .ref Mk)]) → News h₀ env.locals h ((S, listOf #[.ref R, .int k tk'] nS) :: (Mk, listOf (List.toArray vs) nM) :: (Rw, listOf (List.toArray (qs.map Value.ref)) nQ) :: (fixed ++ rl)) → Q .next { s with heap := h, toks := tk }) :
    wpAny (model prog w) A (pyIter (.ref r)) (fun it s₂ => LoopAtV prog w A h₀ env x body Q E it s₂) E s := by
  refine range_invG (GoJ S R Mk Rw nS fixed) hh hr hsmall hn F (kst_newsOf (l' := (S, listOf #[.ref R, .int 0 tk₀] nS) :: (Mk, listOf (List.toArray []) nM) :: (Rw, listOf (List.toArray ([].map Value.ref)) nQ) :: (fixed ++ [])) N (fun p hp => hN p (by rw [List.append_nil] at hp; exact hp)))
    ⟨List.forall_mem_cons.mpr ⟨hm1, List.forall_mem_cons.mpr ⟨hm2, List.forall_mem_nil _⟩⟩, 0, tk₀, [], [], nM, [], nQ, [], rfl, (fun _ h => nomatch h), Int.le_refl _, by simp, .nil, rfl, rfl, (fun _ h => nomatch h), fun j q h => by simp at h⟩ ?_ ?_
  · rintro i t m₁ _ h tk own hi hown ⟨hm₁, k, tk', vs, ms, nM, qs, nQ, rl, rfl, hrl, hk0, hk1, hI, hl1, hl2, hb, hq⟩ F₁ N₁
    refine turn i t k tk' vs ms nM qs nQ rl m₁ h tk (rl ++ own) own hi hown hrl rfl ?_ hk0 hk1 hI hl1 hl2 hb hq (fr_knows _ hm₁ F₁) (kst_newsOf N₁ fun p hp => by simpa only [List.cons_append, List.append_assoc] using hp)
    intro p hp b hb
    rcases List.mem_append.mp hp with hp | hp
    · exact hrl p hp b hb
    · refine hown p hp b ?_
      rcases List.mem_cons.mp hb with rfl | hb
      · exact .head _
      rcases List.mem_cons.mp hb with rfl | hb
      · exact .tail _ (.head _)
      · rw [List.mem_singleton.mp hb]; exact .tail _ (.tail _ (.head _))
  · rintro m₁ _ h tk ⟨hm₁, k, tk', vs, ms, nM, qs, nQ, rl, rfl, hrl, hk0, hk1, hI, hl1, hl2, hb, hq⟩ F₁ N₁
    exact done m₁ k tk' vs ms nM qs nQ rl h tk hI hl1 hl2 hb hrl hq (fr_knows0 _ hm₁ F₁) N₁

theorem go_end {m' : Str → Option Value} {S R Mk Rw B : Addr} {nS nM nQ nB : Nat} {k total : Int} {tk' : Tok} {vs ys : List Value} {ms : List Int} {qs : List Addr} {tt : Tok} {fixed rl own ow news' : List (Addr × Obj)} {i : Nat} {L : Addr} {s₁ : Shared} {h' : Heap} {tk : Nat}
    (F : Fr h₀ L h' m') (N : News h₀ L h' news') (hN : ∀ p ∈ (S, listOf #[.ref R, .int k tk'] nS) :: (Mk, listOf (List.toArray (vs ++ [.int total tt])) nM) :: (Rw, listOf (List.toArray (qs.map Value.ref ++ [.ref B])) nQ) :: (B, listOf (List.toArray ys) nB) :: (fixed ++ ow), p ∈ news')
    (hown : OwnOff own (S :: Mk :: Rw :: (fixed ++ rl).map (·.1))) (hrl : OwnOff rl [S, Mk, Rw]) (how : ow = rl ++ own) (hB : ∀ p ∈ ow, p.1 < B) (hB2 : S < B ∧ Mk < B ∧ Rw < B)
    (hm1 : m' (Str.ofString "state") = some (.ref S)) (hm2 : m' (Str.ofString "masks") = some (.ref Mk))
    (hk0 : 0 ≤ k) (hk : k ≤ 9 * ((i + 1 : Nat) : Int)) (hI : IntsAre vs ms) (hl1 : ms.length = i) (hl2 : qs.length = i) (hb : ∀ z ∈ ms, 0 ≤ z ∧ z < 4294967296) (ht0 : 0 ≤ total) (ht1 : total < 4294967296)
    (hq : ∀ (j : Nat) q, qs[j]? = some q → ∃ ys n, (q, listOf (List.toArray ys) n) ∈ rl ∧ IntsAre ys (els (ms.getD j 0))) (hY : IntsAre ys (els total)) :
    InvEndG h₀ L (GoJ S R Mk Rw nS fixed (i + 1)) own s₁ { s₁ with heap := h', toks := tk } := by
  subst how
  refine InvEndG.intro (nx := (S, listOf #[.ref R, .int k tk'] nS) :: (Mk, listOf (List.toArray (vs ++ [.int total tt])) nM) :: (Rw, listOf (List.toArray ((qs ++ [B]).map Value.ref)) nQ) :: (fixed ++ (rl ++ [(B, listOf (List.toArray ys) nB)]))) F N
    ⟨List.forall_mem_cons.mpr ⟨hm1, List.forall_mem_cons.mpr ⟨hm2, List.forall_mem_nil _⟩⟩, k, tk', _, ms ++ [total], nM, qs ++ [B], nQ, rl ++ [(B, listOf (List.toArray ys) nB)], rfl, ?_, hk0, hk, ?_, by simp [hl1], by simp [hl2], ?_, ?_⟩ ?_ (fun p hp => ?_) (fun p hp => ?_)
  · intro p hp b hb
    rcases List.mem_append.mp hp with hp | hp
    · exact hrl p hp b hb
    · rw [List.mem_singleton.mp hp]
      show B ≠ b
      rcases List.mem_cons.mp hb with rfl | hb
      · exact Nat.ne_of_gt hB2.1
      rcases List.mem_cons.mp hb with rfl | hb
      · exact Nat.ne_of_gt hB2.2.1
      · rw [List.mem_singleton.mp hb]; exact Nat.ne_of_gt hB2.2.2
  · exact hI.append (.cons _ _ .nil)
  · intro z hz
    rcases List.mem_append.mp hz with hz | hz
    · exact hb z hz
    · rw [List.mem_singleton.mp hz]; exact ⟨ht0, ht1⟩
  · intro j q hj
    by_cases hji : j < i
    · rw [List.getElem?_append_left (by omega)] at hj
      obtain ⟨ys', n', h1, h2⟩ := hq j q hj
      refine ⟨ys', n', List.mem_append.mpr (.inl h1), ?_⟩
      have : (ms ++ [total]).getD j 0 = ms.getD j 0 := by
        simp only [List.getD_eq_getElem?_getD]
        rw [List.getElem?_append_left (by omega)]
      rw [this]; exact h2
    · rw [List.getElem?_append_right (by omega)] at hj
      have hj0 : j - qs.length = 0 := by
        rcases Nat.eq_zero_or_pos (j - qs.length) with h | h
        · exact h
        · rw [List.getElem?_eq_none (by simp; omega)] at hj; cases hj
      rw [hj0] at hj
      have e : B = q := by simpa using hj
      subst e
      refine ⟨ys, nB, List.mem_append.mpr (.inr (.head _)), ?_⟩
      have : (ms ++ [total]).getD j 0 = total := by
        have : j = ms.length := by omega
        subst this
        simp [List.getD_eq_getElem?_getD]
      rw [this]; exact hY
  · intro p hp b hb
    have hpB : p.1 ≠ B := Nat.ne_of_lt (hB p (List.mem_append.mpr (.inr hp)))
    simp only [List.map_cons, List.map_append, List.map_nil, List.mem_cons, List.mem_append, List.not_mem_nil, or_false] at hb
    have hall := hown p hp
    simp only [List.map_append, List.mem_cons, List.mem_append] at hall
    rcases hb with h | h | h | h | h | h
    · exact hall b (.inl h)
    · exact hall b (.inr (.inl h))
    · exact hall b (.inr (.inr (.inl h)))
    · exact hall b (.inr (.inr (.inr (.inl h))))
    · exact hall b (.inr (.inr (.inr (.inr h))))
    · rw [h]; exact hpB
  · refine hN p ?_
    simp only [List.mem_cons, List.mem_append, List.map_append, List.map_cons, List.map_nil, List.not_mem_nil, or_false] at hp ⊢
    rcases hp with h | h | h | h | h | h
    · exact .inl h
    · exact .inr (.inl h)
    · exact .inr (.inr (.inl h))
    · exact .inr (.inr (.inr (.inr (.inl h))))
    · exact .inr (.inr (.inr (.inr (.inr (.inl h)))))
    · exact .inr (.inr (.inr (.inl h)))
  · refine hN p ?_
    simp only [List.mem_cons, List.mem_append]
    exact .inr (.inr (.inr (.inr (.inr (.inr hp)))))
end
end

-- Pl01
section
open PySem PySem.W PyProof.Rows PySem.Calls PySem.Spec

theorem els_filter (v : Int) : els v = (rangeKs 0 40).filter (fun k => decide (Int.fmod (Int.fdiv v (2 ^ k.toNat)) 2 = 1)) := by
  have key : ∀ (xs acc : List Int), xs.foldl (elStep v) acc = acc ++ xs.filter (fun k => decide (Int.fmod (Int.fdiv v (2 ^ k.toNat)) 2 = 1)) := by
    intro xs
    induction xs with
    | nil => intro acc; simp
    | cons x xs ih =>
      intro acc
      rw [List.foldl_cons, ih]
      unfold elStep
      by_cases h : Int.fmod (Int.fdiv v (2 ^ x.toNat)) 2 = 1
      · rw [if_pos h, List.filter_cons_of_pos (by simpa using h)]; simp
      · rw [if_neg h, List.filter_cons_of_neg (by simpa using h)]
  unfold els
  rw [key]; simp

theorem mem_range_iff {a₀ k : Int} {n : Nat} : k ∈ rangeKs a₀ n ↔ a₀ ≤ k ∧ k < a₀ + (n : Int) := by
  refine ⟨mem_rangeKs, fun h => List.mem_map.mpr ⟨(k - a₀).toNat, List.mem_range.mpr (by omega), by omega⟩⟩
theorem range_lt (a₀ : Int) (n : Nat) : (rangeKs a₀ n).Pairwise (· < ·) := by
  unfold rangeKs
  rw [List.pairwise_map]
  exact List.pairwise_lt_range.imp fun h => by omega
theorem bit_nat (n k : Nat) : (Int.fmod (Int.fdiv (n : Int) (2 ^ k)) 2 = 1) ↔ n.testBit k = true := by
  have h1 : Int.fdiv (n : Int) (2 ^ k) = ((n / 2 ^ k : Nat) : Int) := by
    rw [Int.fdiv_eq_ediv_of_nonneg _ (Int.pow_nonneg (by decide)), Int.natCast_ediv]
    simp
  rw [h1, Int.fmod_eq_emod_of_nonneg _ (by decide), Nat.testBit_eq_decide_div_mod_eq, decide_eq_true_eq]
  omega
theorem mem_els (n : Nat) (x : Int) : x ∈ els (n : Int) ↔ 0 ≤ x ∧ x < 40 ∧ n.testBit x.toNat = true := by
  rw [els_filter, List.mem_filter, decide_eq_true_eq, bit_nat, mem_range_iff]
  constructor
  · rintro ⟨⟨a, b⟩, c⟩; exact ⟨a, by omega, c⟩
  · rintro ⟨a, b, c⟩; exact ⟨⟨a, by omega⟩, c⟩
theorem testBit_lt32 {n k : Nat} (h : n < 4294967296) (hb : n.testBit k = true) : k < 32 := by
  by_cases hk : k < 32
  · exact hk
  · have h2 : n < 2 ^ k := Nat.lt_of_lt_of_le h (by show 2 ^ 32 ≤ 2 ^ k; exact Nat.pow_le_pow_right (by decide) (by omega))
    rw [Nat.testBit_lt_two_pow h2] at hb
    cases hb
theorem mem_els32 {n : Nat} (h : n < 4294967296) (x : Int) : x ∈ els (n : Int) ↔ 0 ≤ x ∧ x < 32 ∧ n.testBit x.toNat = true := by
  rw [mem_els]
  constructor
  · rintro ⟨a, b, c⟩; have := testBit_lt32 h c; exact ⟨a, by omega, c⟩
  · rintro ⟨a, b, c⟩; exact ⟨a, by omega, c⟩
theorem els_lt (v : Int) : (els v).Pairwise (· < ·) := by
  rw [els_filter]
  exact (range_lt 0 40).filter _
theorem lt_ext : ∀ {a b : List Int}, a.Pairwise (· < ·) → b.Pairwise (· < ·) → (∀ x, x ∈ a ↔ x ∈ b) → a = b
  | [], [], _, _, _ => rfl
  | [], y :: t, _, _, h => absurd ((h y).mpr (.head _)) (by simp)
  | x :: r, [], _, _, h => absurd ((h x).mp (.head _)) (by simp)
  | x :: r, y :: t, ha, hb, h => by
    have a1 := List.pairwise_cons.mp ha
    have b1 := List.pairwise_cons.mp hb
    have e : x = y := by
      rcases List.mem_cons.mp ((h x).mp (.head _)) with e | e
      · exact e
      · rcases List.mem_cons.mp ((h y).mpr (.head _)) with e' | e'
        · exact e'.symm
        · have := a1.1 y e'
          have := b1.1 x e
          omega
    subst e
    rw [lt_ext a1.2 b1.2 fun z => ?_]
    constructor
    · intro hz
      rcases List.mem_cons.mp ((h z).mp (.tail _ hz)) with e | e
      · have := a1.1 z hz; omega
      · exact e
    · intro hz
      rcases List.mem_cons.mp ((h z).mpr (.tail _ hz)) with e | e
      · have := b1.1 z hz; omega
      · exact e

/-- what a comprehension with a test gathers -/
def pick (p : Int → Bool) (l : List Int) (k : Int) : List Int := if p k = true then l ++ [k] else l
theorem pick_grows (p : Int → Bool) : KPfGrows (pick p) := by
  intro l k
  unfold pick
  split <;> simp
theorem pick_yes {p : Int → Bool} {l : List Int} {k : Int} (h : p k = true) : pick p l k = l ++ [k] := by unfold pick; rw [if_pos h]
theorem pick_no {p : Int → Bool} {l : List Int} {k : Int} (h : p k = false) : pick p l k = l := by unfold pick; rw [if_neg (by rw [h]; decide)]
theorem fold_pick (p : Int → Bool) : ∀ (xs acc : List Int), xs.foldl (pick p) acc = acc ++ xs.filter p
  | [], acc => by simp
  | x :: xs, acc => by
    rw [List.foldl_cons, fold_pick p xs]
    by_cases h : p x = true
    · rw [pick_yes h, List.filter_cons_of_pos h]; simp
    · rw [pick_no (by simpa using h), List.filter_cons_of_neg h]

theorem band_nat (a b : Nat) : Builtin.bitAnd (a : Int) (b : Int) = ((a &&& b : Nat) : Int) := by
  unfold Builtin.bitAnd
  rw [decide_eq_true (Int.natCast_nonneg a), decide_eq_true (Int.natCast_nonneg b)]
  rfl
theorem bor_nat (a b : Nat) : Builtin.bitOr (a : Int) (b : Int) = ((a ||| b : Nat) : Int) := by
  unfold Builtin.bitOr Builtin.bitAnd Builtin.bitNot
  rw [decide_eq_false (by omega : ¬ 0 ≤ -(a : Int) - 1), decide_eq_false (by omega : ¬ 0 ≤ -(b : Int) - 1)]
  show -(-(((-(-(a : Int) - 1) - 1).toNat ||| (-(-(b : Int) - 1) - 1).toNat : Nat) : Int) - 1) - 1 = _
  have e1 : (-(-(a : Int) - 1) - 1).toNat = a := by omega
  have e2 : (-(-(b : Int) - 1) - 1).toNat = b := by omega
  rw [e1, e2]; omega
theorem xor_sum : ∀ (n a b : Nat), a + b ≤ n → (a ^^^ b) + (a &&& b) = a ||| b := by
  intro n
  induction n with
  | zero => intro a b h; have : a = 0 := by omega
            have : b = 0 := by omega
            subst_vars; rfl
  | succ n ih =>
    intro a b h
    by_cases hz : a + b = 0
    · have : a = 0 := by omega
      have : b = 0 := by omega
      subst_vars; rfl
    have i := ih (a / 2) (b / 2) (by omega)
    rw [← Nat.xor_div_two, ← Nat.and_div_two, ← Nat.or_div_two] at i
    have x1 := @Nat.xor_mod_two_eq_one a b
    have x2 := @Nat.and_mod_two_eq_one a b
    have x3 := @Nat.or_mod_two_eq_one a b
    omega
theorem bxor_nat (a b : Nat) : Builtin.bitXor (a : Int) (b : Int) = ((a ^^^ b : Nat) : Int) := by
  unfold Builtin.bitXor
  rw [band_nat, bor_nat]
  have := xor_sum _ a b (Nat.le_refl _)
  omega
theorem full_nat : full = ((4294967295 : Nat) : Int) := rfl
theorem full_bit (k : Nat) : Nat.testBit 4294967295 k = decide (k < 32) := by
  have := Nat.testBit_two_pow_sub_one 32 k
  exact this
theorem two32 : (4294967296 : Nat) = 2 ^ 32 := by decide
theorem and_lt32 {a b : Nat} (h : a < 4294967296) : a &&& b < 4294967296 := Nat.lt_of_le_of_lt Nat.and_le_left h
theorem or_lt32 {a b : Nat} (h : a < 4294967296) (h2 : b < 4294967296) : a ||| b < 4294967296 := by rw [two32] at *; exact Nat.or_lt_two_pow h h2
theorem xor_lt32 {a b : Nat} (h : a < 4294967296) (h2 : b < 4294967296) : a ^^^ b < 4294967296 := by rw [two32] at *; exact Nat.xor_lt_two_pow h h2

theorem filter_lt {l : List Int} (h : l.Pairwise (· < ·)) (p : Int → Bool) : (l.foldl (pick p) []).Pairwise (· < ·) := by
  rw [fold_pick, List.nil_append]; exact h.filter _
theorem mem_pick {p : Int → Bool} {l : List Int} {x : Int} : x ∈ l.foldl (pick p) [] ↔ x ∈ l ∧ p x = true := by
  rw [fold_pick, List.nil_append, List.mem_filter]

section
variable {a b : Int} (ha : 0 ≤ a ∧ a < 4294967296) (hb : 0 ≤ b ∧ b < 4294967296)
include ha hb
theorem nats : ∃ m n : Nat, a = (m : Int) ∧ b = (n : Int) ∧ m < 4294967296 ∧ n < 4294967296 := ⟨a.toNat, b.toNat, by omega, by omega, by omega, by omega⟩
theorem law_plus : els (Builtin.bitOr a b) = (rangeKs 0 32).foldl (pick fun k => decide (k ∈ els a) || decide (k ∈ els b)) [] := by
  obtain ⟨m, n, rfl, rfl, hm, hn⟩ := nats ha hb
  refine lt_ext (els_lt _) (filter_lt (range_lt _ _) _) fun x => ?_
  rw [bor_nat, mem_els32 (or_lt32 hm hn), mem_pick, mem_range_iff, Bool.or_eq_true, decide_eq_true_eq, decide_eq_true_eq, mem_els32 hm, mem_els32 hn, Nat.testBit_or, Bool.or_eq_true]
  constructor
  · rintro ⟨h1, h2, h | h⟩
    · exact ⟨by omega, .inl ⟨h1, h2, h⟩⟩
    · exact ⟨by omega, .inr ⟨h1, h2, h⟩⟩
  · rintro ⟨h1, h | h⟩
    · exact ⟨h.1, h.2.1, .inl h.2.2⟩
    · exact ⟨h.1, h.2.1, .inr h.2.2⟩
theorem law_minus : els (Builtin.bitAnd a (Builtin.bitXor full b)) = (els a).foldl (pick fun k => !decide (k ∈ els b)) [] := by
  obtain ⟨m, n, rfl, rfl, hm, hn⟩ := nats ha hb
  refine lt_ext (els_lt _) (filter_lt (els_lt _) _) fun x => ?_
  rw [full_nat, bxor_nat, band_nat, mem_els32 (and_lt32 hm), mem_pick, mem_els32 hm, Bool.not_eq_true', decide_eq_false_iff_not, mem_els32 hn, Nat.testBit_and, Nat.testBit_xor, full_bit, Bool.and_eq_true]
  constructor
  · rintro ⟨h1, h2, h3, h4⟩
    refine ⟨⟨h1, h2, h3⟩, fun h => ?_⟩
    rw [h.2.2, decide_eq_true (by omega : x.toNat < 32)] at h4
    exact absurd h4 (by decide)
  · rintro ⟨⟨h1, h2, h3⟩, h⟩
    refine ⟨h1, h2, h3, ?_⟩
    rw [decide_eq_true (by omega : x.toNat < 32)]
    cases e : n.testBit x.toNat with
    | false => rfl
    | true => exact absurd ⟨h1, h2, e⟩ h
theorem law_times : els (Builtin.bitAnd a b) = (els a).foldl (pick fun k => decide (k ∈ els b)) [] := by
  obtain ⟨m, n, rfl, rfl, hm, hn⟩ := nats ha hb
  refine lt_ext (els_lt _) (filter_lt (els_lt _) _) fun x => ?_
  rw [band_nat, mem_els32 (and_lt32 hm), mem_pick, mem_els32 hm, decide_eq_true_eq, mem_els32 hn, Nat.testBit_and, Bool.and_eq_true]
  constructor
  · rintro ⟨h1, h2, h3, h4⟩; exact ⟨⟨h1, h2, h3⟩, h1, h2, h4⟩
  · rintro ⟨⟨h1, h2, h3⟩, h⟩; exact ⟨h1, h2, h3, h.2.2⟩
theorem law_over : els (Builtin.bitXor a b) = (rangeKs 0 32).foldl (pick fun k => xor (decide (k ∈ els a)) (decide (k ∈ els b))) [] := by
  obtain ⟨m, n, rfl, rfl, hm, hn⟩ := nats ha hb
  refine lt_ext (els_lt _) (filter_lt (range_lt _ _) _) fun x => ?_
  rw [bxor_nat, mem_els32 (xor_lt32 hm hn), mem_pick, mem_range_iff, Nat.testBit_xor]
  constructor
  · rintro ⟨h1, h2, h3⟩
    refine ⟨by omega, ?_⟩
    have e : ∀ {z : Nat}, z < 4294967296 → decide (x ∈ els (z : Int)) = z.testBit x.toNat := fun {z} hz => by
      cases e : z.testBit x.toNat with
      | true => exact decide_eq_true ((mem_els32 hz x).mpr ⟨h1, h2, e⟩)
      | false => exact decide_eq_false fun h => by rw [((mem_els32 hz x).mp h).2.2] at e; cases e
    rw [e hm, e hn]; exact h3
  · rintro ⟨h0, h3⟩
    have h1 : 0 ≤ x := h0.1
    have h2 : x < 32 := by omega
    have e : ∀ {z : Nat}, z < 4294967296 → decide (x ∈ els (z : Int)) = z.testBit x.toNat := fun {z} hz => by
      cases e : z.testBit x.toNat with
      | true => exact decide_eq_true ((mem_els32 hz x).mpr ⟨h1, h2, e⟩)
      | false => exact decide_eq_false fun h => by rw [((mem_els32 hz x).mp h).2.2] at e; cases e
    rw [e hm, e hn] at h3
    exact ⟨h1, h2, h3⟩
theorem srel_iff : srel a b = 1 ↔ (els a).foldl (pick fun k => !decide (k ∈ els b)) [] = [] := by
  rw [← law_minus ha hb]
  obtain ⟨m, n, rfl, rfl, hm, hn⟩ := nats ha hb
  unfold srel
  rw [full_nat, bxor_nat, band_nat]
  constructor
  · intro h
    by_cases e : ((m &&& (4294967295 ^^^ n) : Nat) : Int) = 0
    · rw [e]; exact (by decide +kernel : els 0 = [])
    · rw [if_neg e] at h; cases h
  · intro h
    rw [if_pos]
    have : m &&& (4294967295 ^^^ n) = 0 := by
      refine Nat.eq_of_testBit_eq fun i => ?_
      rw [Nat.zero_testBit]
      cases e : (m &&& (4294967295 ^^^ n)).testBit i with
      | false => rfl
      | true =>
        have hi := testBit_lt32 (and_lt32 hm) e
        have : (i : Int) ∈ els ((m &&& (4294967295 ^^^ n) : Nat) : Int) := (mem_els32 (and_lt32 hm) _).mpr ⟨by omega, by omega, by simpa using e⟩
        rw [h] at this
        cases this
    rw [this]; rfl
theorem srel_01 : srel a b = 1 ∨ srel a b = 0 := by unfold srel; split <;> simp
theorem common_in : srel (Builtin.bitAnd a b) a = 1 := by
  obtain ⟨m, n, rfl, rfl, hm, hn⟩ := nats ha hb
  have hmn := and_lt32 (b := n) hm
  rw [band_nat, srel_iff ⟨by omega, by omega⟩ ⟨by omega, by omega⟩]
  refine List.eq_nil_iff_forall_not_mem.mpr fun x hx => ?_
  rw [mem_pick, mem_els32 hmn, Nat.testBit_and, Bool.and_eq_true, Bool.not_eq_true', decide_eq_false_iff_not, mem_els32 hm] at hx
  exact hx.2 ⟨hx.1.1, hx.1.2.1, hx.1.2.2.1⟩
theorem in_sum : srel b (Builtin.bitOr a b) = 1 := by
  obtain ⟨m, n, rfl, rfl, hm, hn⟩ := nats ha hb
  have hmn := or_lt32 hm hn
  rw [bor_nat, srel_iff ⟨by omega, by omega⟩ ⟨by omega, by omega⟩]
  refine List.eq_nil_iff_forall_not_mem.mpr fun x hx => ?_
  rw [mem_pick, mem_els32 hn, Bool.not_eq_true', decide_eq_false_iff_not, mem_els32 hmn, Nat.testBit_or, Bool.or_eq_true] at hx
  exact hx.2 ⟨hx.1.1, hx.1.2.1, .inr hx.1.2.2⟩
theorem or_bounds : 0 ≤ Builtin.bitOr a b ∧ Builtin.bitOr a b < 4294967296 := by
  obtain ⟨m, n, rfl, rfl, hm, hn⟩ := nats ha hb
  rw [bor_nat]
  have := or_lt32 hm hn
  omega
theorem mem_or (x : Int) : x ∈ els (Builtin.bitOr a b) ↔ x ∈ els a ∨ x ∈ els b := by
  obtain ⟨m, n, rfl, rfl, hm, hn⟩ := nats ha hb
  rw [bor_nat, mem_els32 (or_lt32 hm hn), mem_els32 hm, mem_els32 hn, Nat.testBit_or, Bool.or_eq_true]
  constructor
  · rintro ⟨h1, h2, h | h⟩
    · exact .inl ⟨h1, h2, h⟩
    · exact .inr ⟨h1, h2, h⟩
  · rintro (h | h)
    · exact ⟨h.1, h.2.1, .inl h.2.2⟩
    · exact ⟨h.1, h.2.1, .inr h.2.2⟩
end
section
variable {a : Int} (ha : 0 ≤ a ∧ a < 4294967296)
include ha
theorem law_rest : els (Builtin.bitAnd 4294967295 (Builtin.bitXor full a)) = (rangeKs 0 32).foldl (pick fun k => !decide (k ∈ els a)) [] := by
  have h := law_minus (a := 4294967295) (b := a) ⟨by decide, by decide⟩ ha
  rw [h]
  have e : els 4294967295 = rangeKs 0 32 := by
    refine lt_ext (els_lt _) (range_lt _ _) fun x => ?_
    have := mem_els32 (n := 4294967295) (by decide) x
    rw [show ((4294967295 : Nat) : Int) = 4294967295 from rfl] at this
    rw [this, mem_range_iff, full_bit, decide_eq_true_eq]
    omega
  rw [e]
theorem law_whole : Builtin.bitXor (Builtin.bitAnd 4294967295 (Builtin.bitXor full a)) a = 4294967295 := by
  obtain ⟨m, n, rfl, -, hm, -⟩ := nats ha ha
  rw [show (4294967295 : Int) = ((4294967295 : Nat) : Int) from rfl, full_nat, bxor_nat, band_nat, bxor_nat]
  congr 1
  refine Nat.eq_of_testBit_eq fun i => ?_
  rw [Nat.testBit_xor, Nat.testBit_and, Nat.testBit_xor, full_bit]
  by_cases h : i < 32
  · rw [decide_eq_true h]; cases m.testBit i <;> rfl
  · rw [decide_eq_false h]
    cases e : m.testBit i with
    | false => rfl
    | true => exact absurd (testBit_lt32 hm e) h
theorem els_bounds : ∀ x ∈ els a, 0 ≤ x ∧ x < 32 := by
  obtain ⟨m, n, rfl, -, hm, -⟩ := nats ha ha
  intro x hx
  have := (mem_els32 hm x).mp hx
  exact ⟨this.1, this.2.1⟩
end
theorem rmask_nat {low high : Int} (h0 : 0 ≤ low) (h2 : 0 ≤ high) (h3 : high < 32) : ∃ n : Nat, rmask low high = (n : Int) ∧ n < 4294967296 ∧ ∀ i : Nat, n.testBit i = decide (low.toNat ≤ i ∧ i < (high + 1).toNat) := by
  unfold rmask
  by_cases h : high < low
  · refine ⟨0, by rw [if_pos h]; rfl, by decide, fun i => ?_⟩
    rw [Nat.zero_testBit, eq_comm, decide_eq_false_iff_not]
    omega
  · rw [if_neg h]
    generalize e1 : low.toNat = l
    generalize e2 : (high + 1).toNat = g
    have hl : l ≤ g := by omega
    have hle : 2 ^ l ≤ 2 ^ g := Nat.pow_le_pow_right (by decide) hl
    have hlt : 2 ^ g ≤ 2 ^ 32 := Nat.pow_le_pow_right (by decide) (by omega)
    have hpos : 0 < 2 ^ l := Nat.two_pow_pos l
    refine ⟨2 ^ g - 2 ^ l, ?_, by rw [two32]; omega, fun i => ?_⟩
    · rw [Int.ofNat_sub hle]; simp
    · have e : 2 ^ g - 2 ^ l = (2 ^ (g - l) - 1) <<< l := by
        rw [Nat.shiftLeft_eq, Nat.sub_mul, ← Nat.pow_add, Nat.one_mul]
        congr 2; omega
      rw [e, Nat.testBit_shiftLeft, Nat.testBit_two_pow_sub_one, Bool.eq_iff_iff, Bool.and_eq_true, decide_eq_true_eq, decide_eq_true_eq, decide_eq_true_eq]
      omega
theorem mem_rmask {low high : Int} (h0 : 0 ≤ low) (h2 : 0 ≤ high) (h3 : high < 32) (x : Int) : x ∈ els (rmask low high) ↔ low ≤ x ∧ x ≤ high := by
  obtain ⟨n, e, hn, hb⟩ := rmask_nat h0 h2 h3
  rw [e, mem_els32 hn, hb, decide_eq_true_eq]
  omega
theorem els_rmask {low high : Int} (h0 : 0 ≤ low) (h2 : 0 ≤ high) (h3 : high < 32) : els (rmask low high) = rangeKs low (high + 1 - low).toNat := by
  refine lt_ext (els_lt _) (range_lt _ _) fun x => ?_
  rw [mem_rmask h0 h2 h3, mem_range_iff]
  omega
theorem rmask_bounds {low high : Int} (h0 : 0 ≤ low) (h2 : 0 ≤ high) (h3 : high < 32) : 0 ≤ rmask low high ∧ rmask low high < 4294967296 := by
  obtain ⟨n, e, hn, hb⟩ := rmask_nat h0 h2 h3
  rw [e]; omega
theorem row_bounds {kvs : List (Int × Value)} {total : Int} (R : Row kvs total) : ∀ y ∈ kvs.map (·.1), 0 ≤ y ∧ y < 32 := fun y hy => els_bounds ⟨R.1, R.2.1⟩ y ((R.2.2 y).mp hy)
theorem row_step {kvs kvs' : List (Int × Value)} {total low high : Int} (R : Row kvs total) (h0 : 0 ≤ low) (h2 : 0 ≤ high) (h3 : high < 32) {n : Nat} (hn : n = (high + 1 - low).toNat)
    (hy : ∀ y, y ∈ kvs'.map (·.1) ↔ y ∈ kvs.map (·.1) ∨ (low ≤ y ∧ y < low + (n : Int))) : Row kvs' (Builtin.bitOr total (rmask low high)) := by
  have ha : 0 ≤ total ∧ total < 4294967296 := ⟨R.1, R.2.1⟩
  have hb := rmask_bounds h0 h2 h3
  have h := or_bounds ha hb
  refine ⟨h.1, h.2, fun x => ?_⟩
  rw [hy, mem_or ha hb, R.2.2, mem_rmask h0 h2 h3]
  constructor
  · rintro (h | h)
    · exact .inl h
    · exact .inr (by omega)
  · rintro (h | h)
    · exact .inl h
    · exact .inr (by omega)
theorem row_sorted {prog : Program} {w : World} {o : Obj} {kvs : List (Int × Value)} {total : Int} {ns : List Int} (hd : o.IsDictOf (PySem.intKind prog w) kvs) (R : Row kvs total) (hp : ns.Perm (kvs.map (·.1))) (ho : ns.Pairwise (· ≤ ·)) : ns = els total := by
  obtain ⟨_, _, _, _, _, _, hn⟩ := hd
  have hn2 : ns.Nodup := hp.nodup_iff.mpr hn
  refine lt_ext ?_ (els_lt _) fun x => ?_
  · have : ns.Pairwise (fun a b => a ≤ b ∧ a ≠ b) := List.pairwise_and_iff.mpr ⟨ho, hn2⟩
    exact this.imp fun h => by omega
  · rw [hp.mem_iff, R.2.2]
theorem row_len {prog : Program} {w : World} {o : Obj} {kvs : List (Int × Value)} {total : Int} (hd : o.IsDictOf (PySem.intKind prog w) kvs) (R : Row kvs total) : kvs.length < 64 := by
  have := keys_len hd (row_bounds R)
  omega
end

-- Cl01
section
open PySem PySem.W PyProof.Rows PySem.Calls PySem.Spec PyProof.V

theorem ints_any (k : Int) : ∀ {vs : List Value} {ns : List Int}, IntsAre vs ns → kf_ints vs = true ∧ vs.any (isInt k) = decide (k ∈ ns)
  | _, _, .nil => ⟨rfl, by simp⟩
  | _, _, .cons (vs := vs) (ns := ns) a t h => by
    obtain ⟨i1, i2⟩ := ints_any k h
    refine ⟨?_, ?_⟩
    · show kf_ints vs = true; exact i1
    · rw [List.any_cons, i2]
      have e : isInt k (.int a t) = decide (a = k) := by
        have e1 : isInt k (.int a t) = (a == k) := by simp [isInt]
        rw [e1, Bool.eq_iff_iff, beq_iff_eq, decide_eq_true_eq]
      rw [e]
      by_cases h1 : a = k
      · subst h1; simp
      · by_cases h2 : k ∈ ns
        · simp [h1, h2]
        · have h3 : ¬ k = a := fun e => h1 e.symm
          simp [h1, h2, h3]

theorem els_len (v : Int) : (els v).length ≤ 40 := by
  rw [els_filter]
  exact Nat.le_trans (List.length_filter_le _ _) (Nat.le_of_eq (rangeKs_length _ _))
section
variable {prog : Program} {w : World} {A : Around} {E : Value → Shared → Prop} {s : Shared} {h₀ : Heap} {L D : Addr} {news : List (Addr × Obj)} {vs : List Value} {ns : List Int} {n : Nat} {k : Int} {t : Tok} {Q : Value → Shared → Prop}
theorem in_ints (N : News h₀ L s.heap news) (hm : (D, listOf (List.toArray vs) n) ∈ news) (hi : IntsAre vs ns) (h : Q (.bool (decide (k ∈ ns))) s) : wpAny (model prog w) A (compareOp .In (.int k t) (.ref D)) Q E s :=
  kf_in N hm (ints_any k hi).1 (ints_any k hi).2 h
theorem notin_ints (N : News h₀ L s.heap news) (hm : (D, listOf (List.toArray vs) n) ∈ news) (hi : IntsAre vs ns) (h : Q (.bool (!decide (k ∈ ns))) s) : wpAny (model prog w) A (compareOp .NotIn (.int k t) (.ref D)) Q E s :=
  kf_notin N hm (ints_any k hi).1 (by rw [show (vs.toArray.toList) = vs from rfl, (ints_any k hi).2]) h

def At (l : List Value) (k : Int) (x : Value) : Prop := 0 ≤ k ∧ k < 2 ^ 63 ∧ l[k.toNat]? = some x
theorem item_at {value slice : Expr} {a : Addr} {l : List Value} {u : Tok} {x : Value} (N : News h₀ L s.heap news) (hm : (a, listOf (List.toArray l) n) ∈ news) (hx : At l k x) (h : Q x s)
    (hs : subscripted slice false (.ref a) (.int k u) = operate [.ref a, .int k u] (getItem (.ref a) (.int k u)) := by with_unfolding_all rfl) (hg : ∀ r, letTemporaryGo value (.ref a) r = pure () := by intro _; with_unfolding_all rfl) :
    wpAny (model prog w) A (subscriptTail value slice (.ref a) (.int k u)) Q E s :=
  kim_list N hm rfl rfl hx.1 hx.2.1 hx.2.2 h hs hg
end

theorem news_ne {h₀ h : Heap} {L a b : Addr} {oa ob : Obj} {news : List (Addr × Obj)} (N : News h₀ L h news) (ha : (a, oa) ∈ news) (hb : (b, ob) ∈ news) (hne : oa ≠ ob) : a ≠ b := by
  rintro rfl
  have h1 := (N _ ha).1
  have h2 := (N _ hb).1
  rw [h1] at h2
  exact hne (Option.some.inj h2)
theorem list_ne_cell {vs : List Value} {n : Nat} {o : Obj} {x : Option Value} (h : o.data = Data.cell x) : listOf (List.toArray vs) n ≠ o := by
  rintro rfl
  cases h

/-- of the rows' ledger only the lists -/
theorem rows_only {h₀ h : Heap} {L : Addr} {news rl : List (Addr × Obj)} {qs : List Addr} {ms : List Int} (N : News h₀ L h news) (hrl : ∀ p ∈ rl, p ∈ news)
    (hq : ∀ (j : Nat) (q : Addr), qs[j]? = some q → ∃ (ys : List Value) (n : Nat), (q, listOf (List.toArray ys) n) ∈ rl ∧ IntsAre ys (els (ms.getD j 0))) :
    ∃ r3 : List (Addr × Obj), (∀ p ∈ r3, p ∈ rl) ∧ (∀ (c : Addr) (o : Obj) (x : Option Value), (c, o) ∈ news → o.data = Data.cell x → ∀ p ∈ r3, p.1 ≠ c) ∧
      ∀ (j : Nat) (q : Addr), qs[j]? = some q → ∃ (ys : List Value) (n : Nat), (q, listOf (List.toArray ys) n) ∈ r3 ∧ IntsAre ys (els (ms.getD j 0)) := by
  classical
  refine ⟨rl.filter (fun p => decide (∃ (ys : List Value) (n : Nat), p.2 = listOf (List.toArray ys) n)), fun p hp => (List.mem_filter.mp hp).1, ?_, ?_⟩
  · intro c o x hc hx p hp
    obtain ⟨h1, h2⟩ := List.mem_filter.mp hp
    obtain ⟨ys, n, e⟩ := of_decide_eq_true h2
    exact news_ne N (hrl p h1) hc (by rw [e]; exact list_ne_cell hx)
  · intro j q hj
    obtain ⟨ys, n, h1, h2⟩ := hq j q hj
    exact ⟨ys, n, List.mem_filter.mpr ⟨h1, decide_eq_true ⟨ys, n, rfl⟩⟩, h2⟩

section
variable {prog : Program} {w : World} {A : Around} {E : Value → Shared → Prop} {s : Shared} {env : Env} {h₀ : Heap} {x : Str} {body : List Stmt} {Q : Flow → Shared → Prop}
/-- the word of the double loop: some names stand, and two cells hold whatever they hold -/
def CellJ (c1 c2 : Addr) (rest : List (Addr × Obj)) (ps : List (Str × Value)) (_i : Nat) (m : Str → Option Value) (nx : List (Addr × Obj)) : Prop :=
  (∀ p ∈ ps, m p.1 = some p.2) ∧ ∃ (o1 o2 : Obj) (x1 x2 : Option Value), nx = (c2, o2) :: (c1, o1) :: rest ∧ o1.data = Data.cell x1 ∧ o2.data = Data.cell x2
theorem cell_loop {r : Addr} {a₀ b₀ : Int} {t₀ u₀ v₀ : Tok} {n : Nat} {m₀ : Str → Option Value} {news : List (Addr × Obj)} (c1 c2 : Addr) (o1 o2 : Obj) (x1 x2 : Option Value) (rest : List (Addr × Obj)) (ps : List (Str × Value))
    (hh : A.handled = none) (hr : IsRange s.heap r a₀ b₀ 1 t₀ u₀ v₀) (hsmall : Builtin.Range.small a₀ b₀ 1 = true) (hn : Builtin.Range.rangeSize a₀ b₀ 1 = (n : Int)) (F : Fr h₀ env.locals s.heap m₀) (N : News h₀ env.locals s.heap news)
    (hN : ∀ p ∈ (c2, o2) :: (c1, o1) :: rest, p ∈ news) (hoff : OwnOff rest [c1, c2]) (d1 : o1.data = Data.cell x1) (d2 : o2.data = Data.cell x2) (hm : ∀ p ∈ ps, m₀ p.1 = some p.2)
    (turn : ∀ (i : Nat) (t : Tok) (o1 o2 : Obj) (x1 x2 : Option Value) (m₁ : Str → Option Value) (h : Heap) (tk : Nat) (ow own : List (Addr × Obj)), i < n → OwnOff own (c2 :: c1 :: rest.map (·.1)) → ow = rest ++ own → OwnOff ow [c1, c2] → o1.data = Data.cell x1 → o2.data = Data.cell x2 →
      Fr h₀ env.locals h (fun y => if y = x then some (.int (a₀ + (i : Int)) t) else kstB m₁ ps y) → News h₀ env.locals h ((c2, o2) :: (c1, o1) :: ow) →
      wpAny (model prog w) A (execs body env) (InvPostG h₀ env.locals (CellJ c1 c2 rest ps (i + 1)) own { s with heap := h, toks := tk } Q) E { s with heap := h, toks := tk })
    (done : ∀ (m₁ : Str → Option Value) (o1 o2 : Obj) (x1 x2 : Option Value) (h : Heap) (tk : Nat), o1.data = Data.cell x1 → o2.data = Data.cell x2 → Fr h₀ env.locals h (kstB m₁ ps) → News h₀ env.locals h ((c2, o2) :: (c1, o1) :: rest) → Q .next { s with heap := h, toks := tk }) :
    wpAny (model prog w) A (pyIter (.ref r)) (fun it s₂ => LoopAtV prog w A h₀ env x body Q E it s₂) E s := by
  refine range_invG (CellJ c1 c2 rest ps) hh hr hsmall hn F (kst_newsOf N hN) ⟨hm, o1, o2, x1, x2, rfl, d1, d2⟩ ?_ ?_
  · rintro i t m₁ _ h tk own hi hown ⟨hm₁, o1, o2, x1, x2, rfl, d1, d2⟩ F₁ N₁
    refine turn i t o1 o2 x1 x2 m₁ h tk (rest ++ own) own hi hown rfl ?_ d1 d2 (fr_knows _ hm₁ F₁) N₁
    intro p hp b hb
    rcases List.mem_append.mp hp with hp | hp
    · exact hoff p hp b hb
    · refine hown p hp b ?_
      rcases List.mem_cons.mp hb with rfl | hb
      · exact .tail _ (.head _)
      · rw [List.mem_singleton.mp hb]; exact .head _
  · rintro m₁ _ h tk ⟨hm₁, o1, o2, x1, x2, rfl, d1, d2⟩ F₁ N₁
    exact done m₁ o1 o2 x1 x2 h tk d1 d2 (fr_knows0 _ hm₁ F₁) N₁
theorem cell_loop1 {r : Addr} {a₀ b₀ : Int} {t₀ u₀ v₀ : Tok} {n : Nat} {m₀ : Str → Option Value} {news : List (Addr × Obj)} (c1 c2 : Addr) (o1 o2 : Obj) (x1 x2 : Option Value) (rest : List (Addr × Obj)) (Mk : Addr)
    (hh : A.handled = none) (hr : IsRange s.heap r a₀ b₀ 1 t₀ u₀ v₀) (hsmall : Builtin.Range.small a₀ b₀ 1 = true) (hn : Builtin.Range.rangeSize a₀ b₀ 1 = (n : Int)) (F : Fr h₀ env.locals s.heap m₀) (N : News h₀ env.locals s.heap news)
    (hN : ∀ p ∈ (c2, o2) :: (c1, o1) :: rest, p ∈ news) (hoff : OwnOff rest [c1, c2]) (d1 : o1.data = Data.cell x1) (d2 : o2.data = Data.cell x2) (hm1 : m₀ (Str.ofString "masks") = some (.ref Mk))
    (turn : ∀ (i : Nat) (t : Tok) (o1 o2 : Obj) (x1 x2 : Option Value) (m₁ : Str → Option Value) (h : Heap) (tk : Nat) (ow own : List (Addr × Obj)), i < n → OwnOff own (c2 :: c1 :: rest.map (·.1)) → ow = rest ++ own → OwnOff ow [c1, c2] → o1.data = Data.cell x1 → o2.data = Data.cell x2 →
      Fr h₀ env.locals h (fun y => if y = x then some (.int (a₀ + (i : Int)) t) else kstB m₁ [(Str.ofString "masks", Value.ref Mk)] y) → News h₀ env.locals h ((c2, o2) :: (c1, o1) :: ow) →
      wpAny (model prog w) A (execs body env) (InvPostG h₀ env.locals (CellJ c1 c2 rest [(Str.ofString "masks", Value.ref Mk)] (i + 1)) own { s with heap := h, toks := tk } Q) E { s with heap := h, toks := tk })
    (done : ∀ (m₁ : Str → Option Value) (o1 o2 : Obj) (x1 x2 : Option Value) (h : Heap) (tk : Nat), o1.data = Data.cell x1 → o2.data = Data.cell x2 → Fr h₀ env.locals h (kstB m₁ [(Str.ofString "masks", Value.ref Mk)]) → News h₀ env.locals h ((c2, o2) :: (c1, o1) :: rest) → Q .next { s with heap := h, toks := tk }) :
    wpAny (model prog w) A (pyIter (.ref r)) (fun it s₂ => LoopAtV prog w A h₀ env x body Q E it s₂) E s :=
  cell_loop c1 c2 o1 o2 x1 x2 rest [(Str.ofString "masks", Value.ref Mk)] hh hr hsmall hn F N hN hoff d1 d2 (List.forall_mem_cons.mpr ⟨hm1, List.forall_mem_nil _⟩) turn done
theorem cell_loop2 {r : Addr} {a₀ b₀ : Int} {t₀ u₀ v₀ : Tok} {n : Nat} {m₀ : Str → Option Value} {news : List (Addr × Obj)} (c1 c2 : Addr) (o1 o2 : Obj) (x1 x2 : Option Value) (rest : List (Addr × Obj)) (Mk : Addr) (f : Int) (tf : Tok)
    (hh : A.handled = none) (hr : IsRange s.heap r a₀ b₀ 1 t₀ u₀ v₀) (hsmall : Builtin.Range.small a₀ b₀ 1 = true) (hn : Builtin.Range.rangeSize a₀ b₀ 1 = (n : Int)) (F : Fr h₀ env.locals s.heap m₀) (N : News h₀ env.locals s.heap news)
    (hN : ∀ p ∈ (c2, o2) :: (c1, o1) :: rest, p ∈ news) (hoff : OwnOff rest [c1, c2]) (d1 : o1.data = Data.cell x1) (d2 : o2.data = Data.cell x2) (hm1 : m₀ (Str.ofString "masks") = some (.ref Mk)) (hm2 : m₀ (Str.ofString "first") = some (.int f tf))
    (turn : ∀ (i : Nat) (t : Tok) (o1 o2 : Obj) (x1 x2 : Option Value) (m₁ : Str → Option Value) (h : Heap) (tk : Nat) (ow own : List (Addr × Obj)), i < n → OwnOff own (c2 :: c1 :: rest.map (·.1)) → ow = rest ++ own → OwnOff ow [c1, c2] → o1.data = Data.cell x1 → o2.data = Data.cell x2 →
      Fr h₀ env.locals h (fun y => if y = x then some (.int (a₀ + (i : Int)) t) else kstB m₁ [(Str.ofString "masks", Value.ref Mk), (Str.ofString "first", Value.int f tf)] y) → News h₀ env.locals h ((c2, o2) :: (c1, o1) :: ow) →
      wpAny (model prog w) A (execs body env) (InvPostG h₀ env.locals (CellJ c1 c2 rest [(Str.ofString "masks", Value.ref Mk), (Str.ofString "first", Value.int f tf)] (i + 1)) own { s with heap := h, toks := tk } Q) E { s with heap := h, toks := tk })
    (done : ∀ (m₁ : Str → Option Value) (o1 o2 : Obj) (x1 x2 : Option Value) (h : Heap) (tk : Nat), o1.data = Data.cell x1 → o2.data = Data.cell x2 → Fr h₀ env.locals h (kstB m₁ [(Str.ofString "masks", Value.ref Mk), (Str.ofString "first", Value.int f tf)]) → News h₀ env.locals h ((c2, o2) :: (c1, o1) :: rest) → Q .next { s with heap := h, toks := tk }) :
    wpAny (model prog w) A (pyIter (.ref r)) (fun it s₂ => LoopAtV prog w A h₀ env x body Q E it s₂) E s :=
  cell_loop c1 c2 o1 o2 x1 x2 rest [(Str.ofString "masks", Value.ref Mk), (Str.ofString "first", Value.int f tf)] hh hr hsmall hn F N hN hoff d1 d2 (List.forall_mem_cons.mpr ⟨hm1, List.forall_mem_cons.mpr ⟨hm2, List.forall_mem_nil _⟩⟩) turn done
theorem cell_end {m' : Str → Option Value} {c1 c2 : Addr} {rest own ow news' : List (Addr × Obj)} {ps : List (Str × Value)} {i : Nat} {L : Addr} {s₁ : Shared} {h' : Heap} {tk : Nat} {o1 o2 : Obj} {x1 x2 : Option Value}
    (F : Fr h₀ L h' m') (N : News h₀ L h' news') (hN : ∀ p ∈ (c2, o2) :: (c1, o1) :: ow, p ∈ news') (hown : OwnOff own (c2 :: c1 :: rest.map (·.1))) (how : ow = rest ++ own) (hm : ∀ p ∈ ps, m' p.1 = some p.2) (d1 : o1.data = Data.cell x1) (d2 : o2.data = Data.cell x2) :
    InvEndG h₀ L (CellJ c1 c2 rest ps (i + 1)) own s₁ { s₁ with heap := h', toks := tk } := by
  subst how
  refine InvEndG.intro (nx := (c2, o2) :: (c1, o1) :: rest) F N ⟨hm, o1, o2, x1, x2, rfl, d1, d2⟩ hown (fun p hp => hN p ?_) (fun p hp => hN p ?_)
  · rcases List.mem_cons.mp hp with rfl | hp
    · exact .head _
    rcases List.mem_cons.mp hp with rfl | hp
    · exact .tail _ (.head _)
    · exact .tail _ (.tail _ (List.mem_append.mpr (.inl hp)))
  · exact .tail _ (.tail _ (List.mem_append.mpr (.inr hp)))
end

theorem dbl_news {h₀ h : Heap} {L : Addr} {eS eM eR eD e2 e1 ec : Addr × Obj} {rl r3 : List (Addr × Obj)} (N : News h₀ L h (eS :: eM :: eR :: eD :: e2 :: e1 :: ec :: rl)) (hr : ∀ p ∈ r3, p ∈ rl) : News h₀ L h (e2 :: e1 :: eM :: eR :: ec :: r3) := by
  refine kst_newsOf N fun p hp => ?_
  rcases List.mem_cons.mp hp with rfl | hp
  · exact .tail _ (.tail _ (.tail _ (.tail _ (.head _))))
  rcases List.mem_cons.mp hp with rfl | hp
  · exact .tail _ (.tail _ (.tail _ (.tail _ (.tail _ (.head _)))))
  rcases List.mem_cons.mp hp with rfl | hp
  · exact .tail _ (.head _)
  rcases List.mem_cons.mp hp with rfl | hp
  · exact .tail _ (.tail _ (.head _))
  rcases List.mem_cons.mp hp with rfl | hp
  · exact .tail _ (.tail _ (.tail _ (.tail _ (.tail _ (.tail _ (.head _))))))
  · exact .tail _ (.tail _ (.tail _ (.tail _ (.tail _ (.tail _ (.tail _ (hr p hp)))))))
theorem mem_how {rest own ow : List (Addr × Obj)} {x : Addr × Obj} (how : ow = rest ++ own) (i : Nat) (he : rest[i]? = some x) : x ∈ ow := by
  rw [how]; exact List.mem_append_left _ (List.mem_of_getElem? he)
theorem mem_how' {rest own ow : List (Addr × Obj)} {x : Addr × Obj} (how : ow = rest ++ own) (h : x ∈ rest) : x ∈ ow := by
  rw [how]; exact List.mem_append_left _ h
theorem pos_facts {vs : List Value} {ms : List Int} {qs : List Addr} {r3 : List (Addr × Obj)} (hI : IntsAre vs ms) (hl1 : ms.length = 3) (hl2 : qs.length = 3) (hb : ∀ z ∈ ms, 0 ≤ z ∧ z < 4294967296)
    (hq : ∀ (j : Nat) (q : Addr), qs[j]? = some q → ∃ (ys : List Value) (n : Nat), (q, listOf (List.toArray ys) n) ∈ r3 ∧ IntsAre ys (els (ms.getD j 0))) (i : Nat) (hi : i < 3) (k : Int) (hk : k = (i : Int)) :
    ∃ (a : Int) (t : Tok) (q : Addr) (ys : List Value) (n : Nat), At vs k (.int a t) ∧ At (qs.map Value.ref) k (.ref q) ∧ (q, listOf (List.toArray ys) n) ∈ r3 ∧ IntsAre ys (els a) ∧ (0 ≤ a ∧ a < 4294967296) ∧ a = ms.getD i 0 := by
  subst hk
  have h1 : ms[i]? = some (ms.getD i 0) := by
    rw [List.getD_eq_getElem?_getD, List.getElem?_eq_getElem (by omega : i < ms.length)]; rfl
  obtain ⟨t, ht⟩ := hI.get i _ h1
  have h2 : qs[i]? = some (qs[i]'(by omega)) := List.getElem?_eq_getElem _
  obtain ⟨ys, n, h3, h4⟩ := hq i _ h2
  refine ⟨ms.getD i 0, t, _, ys, n, ⟨by omega, by omega, by simpa using ht⟩, ⟨by omega, by omega, ?_⟩, h3, h4, hb _ (List.mem_of_getElem? h1), rfl⟩
  rw [Int.toNat_natCast, List.getElem?_map, h2]; rfl
end

-- Vl01
section
open PySem PySem.W PyProof.Rows PySem.Calls PySem.Spec PyProof.V
section
variable {prog : Program} {w : World} {A : Around} {E : Value → Shared → Prop} {s : Shared} {env : Env} {h₀ : Heap} {x : Str} {body : List Stmt} {Q : Flow → Shared → Prop}

def SameJ (news : List (Addr × Obj)) (ps : List (Str × Value)) (m : Str → Option Value) (nx : List (Addr × Obj)) : Prop := nx = news ∧ ∀ p ∈ ps, m p.1 = some p.2

/-- a loop over a list of any values; its turns keep some names and the whole ledger -/
theorem vals_loop {l : Addr} {vs : List Value} {nn : Nat} {m₀ : Str → Option Value} {news : List (Addr × Obj)} (ps : List (Str × Value))
    (hh : A.handled = none) (hl : (l, listOf (List.toArray vs) nn) ∈ news) (F : Fr h₀ env.locals s.heap m₀) (N : News h₀ env.locals s.heap news) (hm : ∀ p ∈ ps, m₀ p.1 = some p.2)
    (turn : ∀ (v : Value) (m₁ : Str → Option Value) (h : Heap) (tk : Nat) (own : List (Addr × Obj)), v ∈ vs → OwnOff own (news.map (·.1)) → Fr h₀ env.locals h (fun y => if y = x then some v else kstB m₁ ps y) → News h₀ env.locals h (news ++ own) →
      wpAny (model prog w) A (execs body env) (InvPostG h₀ env.locals (SameJ news ps) own { s with heap := h, toks := tk } Q) E { s with heap := h, toks := tk })
    (done : ∀ (m₁ : Str → Option Value) (h : Heap) (tk : Nat), Fr h₀ env.locals h (kstB m₁ ps) → News h₀ env.locals h news → Q .next { s with heap := h, toks := tk }) :
    wpAny (model prog w) A (pyIter (.ref l)) (fun it s₂ => LoopAtV prog w A h₀ env x body Q E it s₂) E s := by
  refine kdl_iter (fun _ m nx => SameJ news ps m nx) hh hl F N ⟨rfl, hm⟩ (fun i v m₁ nx h tk own hv hoff hin hJ F₁ N₁ => ?_) (fun m₁ nx h tk hJ F₁ N₁ => ?_)
  · obtain ⟨rfl, hk⟩ := hJ
    refine wpAny_mono (turn v m₁ h tk own (List.mem_of_getElem? hv) hoff (fr_knows _ hk F₁) N₁) (fun f s₂ p => ?_) fun _ _ e => e
    have more : InvEndG h₀ env.locals (SameJ nx ps) own { s with heap := h, toks := tk } s₂ →
        InvEndG h₀ env.locals (fun m' ny => (l, listOf (List.toArray vs) nn) ∈ ny ∧ SameJ nx ps m' ny) own { s with heap := h, toks := tk } s₂ := by
      rintro ⟨h2, tk2, m2, n2, ny, e, a, b, c, d, off, rfl, j⟩
      exact ⟨h2, tk2, m2, n2, _, e, a, b, c, d, off, hin, rfl, j⟩
    cases f with
    | ret v => exact p
    | brk => exact p
    | next => exact more p
    | cont => exact more p
  · obtain ⟨rfl, hk⟩ := hJ
    exact done m₁ h tk (fr_knows0 _ hk F₁) N₁
theorem vals_end {m' : Str → Option Value} {news own news' : List (Addr × Obj)} {ps : List (Str × Value)} {L : Addr} {s₁ : Shared} {h' : Heap} {tk : Nat}
    (F : Fr h₀ L h' m') (N : News h₀ L h' news') (hN : ∀ p ∈ news ++ own, p ∈ news') (hown : OwnOff own (news.map (·.1))) (hm : ∀ p ∈ ps, m' p.1 = some p.2) :
    InvEndG h₀ L (SameJ news ps) own s₁ { s₁ with heap := h', toks := tk } :=
  InvEndG.intro F N ⟨rfl, hm⟩ hown (fun p hp => hN p (List.mem_append_left _ hp)) (fun p hp => hN p (List.mem_append_right _ hp))
theorem vals_loop4 {l : Addr} {vs : List Value} {nn : Nat} {m₀ : Str → Option Value} {news : List (Addr × Obj)} (Mk : Addr) (f : Int) (tf : Tok) (g : Int) (tg : Tok) (dd : Addr)
    (hh : A.handled = none) (hl : (l, listOf (List.toArray vs) nn) ∈ news) (F : Fr h₀ env.locals s.heap m₀) (N : News h₀ env.locals s.heap news) (hm1 : m₀ (Str.ofString "masks") = some (.ref Mk)) (hm2 : m₀ (Str.ofString "first") = some (.int f tf)) (hm3 : m₀ (Str.ofString "second") = some (.int g tg)) (hm4 : m₀ (Str.ofString "due") = some (.ref dd))
    (turn : ∀ (v : Value) (m₁ : Str → Option Value) (h : Heap) (tk : Nat) (own : List (Addr × Obj)), v ∈ vs → OwnOff own (news.map (·.1)) → Fr h₀ env.locals h (fun y => if y = x then some v else kstB m₁ [(Str.ofString "masks", Value.ref Mk), (Str.ofString "first", Value.int f tf), (Str.ofString "second", Value.int g tg), (Str.ofString "due", Value.ref dd)] y) → News h₀ env.locals h (news ++ own) →
      wpAny (model prog w) A (execs body env) (InvPostG h₀ env.locals (SameJ news [(Str.ofString "masks", Value.ref Mk), (Str.ofString "first", Value.int f tf), (Str.ofString "second", Value.int g tg), (Str.ofString "due", Value.ref dd)]) own { s with heap := h, toks := tk } Q) E { s with heap := h, toks := tk })
    (done : ∀ (m₁ : Str → Option Value) (h : Heap) (tk : Nat), Fr h₀ env.locals h (kstB m₁ [(Str.ofString "masks", Value.ref Mk), (Str.ofString "first", Value.int f tf), (Str.ofString "second", Value.int g tg), (Str.ofString "due", Value.ref dd)]) → News h₀ env.locals h news → Q .next { s with heap := h, toks := tk }) :
    wpAny (model prog w) A (pyIter (.ref l)) (fun it s₂ => LoopAtV prog w A h₀ env x body Q E it s₂) E s :=
  vals_loop [(Str.ofString "masks", Value.ref Mk), (Str.ofString "first", Value.int f tf), (Str.ofString "second", Value.int g tg), (Str.ofString "due", Value.ref dd)] hh hl F N (List.forall_mem_cons.mpr ⟨hm1, List.forall_mem_cons.mpr ⟨hm2, List.forall_mem_cons.mpr ⟨hm3, List.forall_mem_cons.mpr ⟨hm4, List.forall_mem_nil _⟩⟩⟩⟩) turn done
end
end

-- Lw11
section
open PySem PySem.W PyProof.Rows PySem.Calls PySem.Spec
theorem off1 {own : List (Addr × Obj)} {a : Addr} (h : ∀ p ∈ own, p.1 ≠ a) : OwnOff own [a] := fun p hp b hb => by rw [List.mem_singleton.mp hb]; exact h p hp
theorem off2 {own : List (Addr × Obj)} {a b : Addr} (h : ∀ p ∈ own, p.1 ≠ a) (h2 : ∀ p ∈ own, p.1 ≠ b) : OwnOff own [a, b] := fun p hp c hc => by
  rcases List.mem_cons.mp hc with rfl | hc
  · exact h p hp
  · rw [List.mem_singleton.mp hc]; exact h2 p hp
theorem off3 {own : List (Addr × Obj)} {a b c : Addr} (h : ∀ p ∈ own, p.1 ≠ a) (h2 : ∀ p ∈ own, p.1 ≠ b) (h3 : ∀ p ∈ own, p.1 ≠ c) : OwnOff own [a, b, c] := fun p hp d hd => by
  rcases List.mem_cons.mp hd with rfl | hd
  · exact h p hp
  · exact off2 h2 h3 p hp d hd
theorem go_perm {a b c : Addr × Obj} {r : List (Addr × Obj)} : ∀ p ∈ c :: b :: a :: r, p ∈ a :: b :: c :: r := by
  intro p hp
  rcases List.mem_cons.mp hp with rfl | hp
  · exact .tail _ (.tail _ (.head _))
  rcases List.mem_cons.mp hp with rfl | hp
  · exact .tail _ (.head _)
  rcases List.mem_cons.mp hp with rfl | hp
  · exact .head _
  · exact .tail _ (.tail _ (.tail _ hp))
theorem swap_perm {a b : Addr × Obj} {r : List (Addr × Obj)} : ∀ p ∈ b :: a :: r, p ∈ a :: b :: r := by
  intro p hp
  rcases List.mem_cons.mp hp with rfl | hp
  · exact .tail _ (.head _)
  rcases List.mem_cons.mp hp with rfl | hp
  · exact .head _
  · exact .tail _ (.tail _ hp)
def LedLt (B : Addr) (news : List (Addr × Obj)) : Prop := ∀ q ∈ news, q.1 < B
theorem els0 : els 0 = [] := by decide +kernel

local macro_rules | `(tactic| k_all) => `(tactic| (first
  | ((with_reducible refine List.forall_mem_cons.mpr ⟨?_, ?_⟩); (refine neN ?_; (try dsimp only); omega); k_all)
  | (with_reducible exact List.forall_mem_nil _)
  | ((with_reducible refine OwnOff.ne (by with_reducible assumption) ?_); k_memK)))
local macro_rules | `(tactic| k_mem) => `(tactic| first | k_dflt (exact List.mem_cons_self) | ((with_reducible refine List.mem_cons_of_mem _ ?_); k_mem) | ktr_member)
local macro_rules | `(tactic| walk_at "eval Call") => `(tactic| (k_here; (with_reducible show wpAny _ _ (eval (Expr.Call (Expr.Name _ _) _ [] _) _) _ _ _); k_dflt (refine Call_ ?_)))
local macro_rules | `(tactic| walk_at "call ref") => `(tactic| (k_here; (with_reducible show wpAny _ _ (call (Value.ref 42) _) _ _ _); k_dflt ((with_reducible rename News _ _ _ _ => tkN); refine' take_use 1 ?k1 ?k2 ?k3 tkN ?k5 ?kK ?kd ?ku ?ke ?kr ?kO ?kR ?kI ?kl ?b0 ?b1 ?b2 ?_; (case ke => exact rfl); (case k1 => k_asm); (case k2 => k_asm); (case k3 => assumption); (case k5 => k_asm); (case kK => first | rfl | skip); (case kd => decide); (case ku => decide); (case kr => first | (dsimp only [List.eraseIdx]; done) | (dsimp only [List.eraseIdx]; exact rfl)); (case kO => (refine off1 ?_; k_all)); (case kR => k_mem); (case kI => assumption); (case kl => omega); (case b0 => omega); (case b1 => omega); (case b2 => decide); clear tkN; intro v' t' t2' h' k' lo' hi' F' N'; (try dsimp only))))
local macro_rules | `(tactic| walk_at "call ref") => `(tactic| (k_here; (with_reducible show wpAny _ _ (call (Value.ref 42) _) _ _ _); k_dflt ((with_reducible rename News _ _ _ _ => tkN); refine' take_use 0 ?k1 ?k2 ?k3 tkN ?k5 ?kK ?kd ?ku ?ke ?kr ?kO ?kR ?kI ?kl ?b0 ?b1 ?b2 ?_; (case ke => exact rfl); (case k1 => k_asm); (case k2 => k_asm); (case k3 => assumption); (case k5 => k_asm); (case kK => first | rfl | skip); (case kd => decide); (case ku => decide); (case kr => first | (dsimp only [List.eraseIdx]; done) | (dsimp only [List.eraseIdx]; exact rfl)); (case kO => (refine off1 ?_; k_all)); (case kR => k_mem); (case kI => assumption); (case kl => omega); (case b0 => omega); (case b1 => omega); (case b2 => decide); clear tkN; intro v' t' t2' h' k' lo' hi' F' N'; (try dsimp only))))
local macro_rules | `(tactic| walk_at "call ref") => `(tactic| (k_here; (with_reducible show wpAny _ _ (call (Value.ref 47) _) _ _ _); k_dflt (refine' elem_use ?k1 ?k2 ?k3 ?k4 ?k5 ?kK ?kd ?ku ?_; (case k4 => k_asm); (case k1 => k_asm); (case k2 => k_asm); (case k3 => assumption); (case k5 => k_asm); (case kK => first | rfl | skip); (case kd => decide); (case ku => decide); intro q' y' h' k' F' N' lq' lI' ll'; (try dsimp only))))
local macro_rules | `(tactic| walk_at "call ref") => `(tactic| (k_here; (with_reducible show wpAny _ _ (call (Value.ref 35) _) _ _ _); k_dflt (refine' pure_use ?kC ?k1 ?k2 ?k3 ?k4 ?k5 ?kK ?kd ?ku ?_; (case k4 => k_asm); (case k1 => k_asm); (case k2 => k_asm); (case k3 => assumption); (case k5 => k_asm); (case kK => first | rfl | skip); (case kd => decide); (case ku => decide); (case kC => (refine range_mask_tells _ _ _ _ ?_ ?_ ?_ ?_ <;> omega)); intro t' h' k' F' N'; (try dsimp only))))
local macro_rules | `(tactic| walk_at "call ref") => `(tactic| (k_here; (with_reducible show wpAny _ _ (call (Value.ref 21) _) _ _ _); k_dflt (refine' pure_use ?kC ?k1 ?k2 ?k3 ?k4 ?k5 ?kK ?kd ?ku ?_; (case k4 => k_asm); (case k1 => k_asm); (case k2 => k_asm); (case k3 => assumption); (case k5 => k_asm); (case kK => first | rfl | skip); (case kd => decide); (case ku => decide); (case kC => first | exact set_plus _ _ _ _ _ | exact set_minus _ _ _ _ _ | exact set_times _ _ _ _ _ | exact set_over _ _ _ _ _); intro t' h' k' F' N'; (try dsimp only))))
local macro_rules | `(tactic| walk_at "call ref") => `(tactic| (k_here; (with_reducible show wpAny _ _ (call (Value.ref 28) _) _ _ _); k_dflt (refine' pure_use ?kC ?k1 ?k2 ?k3 ?k4 ?k5 ?kK ?kd ?ku ?_; (case k4 => k_asm); (case k1 => k_asm); (case k2 => k_asm); (case k3 => assumption); (case k5 => k_asm); (case kK => first | rfl | skip); (case kd => decide); (case ku => decide); (case kC => first | exact rel_le _ _ _ _ _ | exact rel_ge _ _ _ _ _); intro t' h' k' F' N'; (try dsimp only))))
local macro_rules | `(tactic| walk_at "setItem ref int") => `(tactic| (k_here; k_dflt (refine' kda_set (knd := PySem.intKind _ _) ?F ?N ?U ?d (intKind_is _ _ _ _) ?z ?_; (case F => k_asm); (case N => k_asm); (case U => k_updF); (case d => k_asm); (case z => assumption); intro h' o' F' N' hd'; (try dsimp only at N'))))
local macro_rules | `(tactic| walk_at "call builtin:sorted") => `(tactic| (k_here; (with_reducible show wpAny _ _ (call (Value.builtin _) [Value.ref _]) _ _ _); k_dflt (refine' sorted_dict ?k1 ?k2 ?k3 ?k4 ?k5 ?k6 ?k7 ?_; (case k1 => rfl); (case k2 => k_asm); (case k3 => k_asm); (case k4 => k_mem); (case k5 => assumption); (case k6 => assumption); (case k7 => exact row_len (by assumption) (by assumption)); intro B' h' k' vs' ns' c' F' N' l1' I' p' o'; (have l2' := l1'); (k_lt l2'); (have l3' : LedLt _ _ := l1'); clear l1'; (try dsimp only))))
local macro_rules | `(tactic| walk_at "subscriptTail") => `(tactic| (k_here; (with_reducible show wpAny _ _ (subscriptTail _ _ (Value.ref _) (Value.int _ _)) _ _ _); k_dflt (refine' item_at ?N ?m ?v ?_; (case N => k_asm); (case m => k_mem); (case v => assumption); (try dsimp only))))
local macro_rules | `(tactic| walk_at "compareOp In int ref") => `(tactic| (k_here; k_dflt (refine' in_ints ?N ?m ?i ?_; (case N => k_asm); (case m => k_mem); (case i => assumption); (try dsimp only))))
local macro_rules | `(tactic| walk_at "compareOp NotIn int ref") => `(tactic| (k_here; k_dflt (refine' notin_ints ?N ?m ?i ?_; (case N => k_asm); (case m => k_mem); (case i => assumption); (try dsimp only))))
local macro_rules | `(tactic| walk_at "subscriptTail") => `(tactic| (k_here; (with_reducible show wpAny _ _ (subscriptTail _ _ (Value.ref _) (Value.str _ _)) _ _ _); k_dflt (refine' kda_item (knd := PySem.strKind _ _) ?N ?m ?d (strKind_is _ _ _ _) ?l ?_; (case N => k_asm); (case m => k_mem); (case d => assumption); (case l => rfl); (try dsimp only))))
local macro_rules | `(tactic| walk_at "subscriptTail Name Constant ref int") => `(tactic| (k_here; (with_reducible show wpAny _ _ (subscriptTail _ _ (Value.ref _) (Value.int _ _)) _ _ _); k_dflt (refine' item_at ?N ?m ?v ?_; (case N => k_asm); (case m => k_mem); (case v => assumption); (try dsimp only))))

theorem see : PySem.Challenge.rw_pb0304_01.Holds := hd (by
  k_go0
  (all_goals try k_fold)
  repeat' ((fail_if_success (with_reducible show wpAny _ _ (pyIter _) _ _ _)); first | k_unfold | walk1 | (dsimp only; walk1))
  rename News _ _ _ _ => N0
  rename Fr _ _ _ _ => F0
  rename IsRange _ _ _ _ _ _ _ _ => R0
  (with_unfolding_all refine' go_loop (n := 3) _ _ _ _ _ _ _ _ _ (by rfl) R0 (by decide) (by rfl) F0 N0 go_perm ?ko ?m1 ?m2 ?turn ?done)
  case ko => refine off3 ?_ ?_ ?_ <;> k_all
  case m1 => rfl
  case m2 => rfl
  case turn =>
    clear F0 N0 R0
    intro i t k tk' vs ms nM qs nQ rl m₁ h tk ow own hi hown hrl how hoff hk0 hk1 hI hl1 hl2 hb hq F N
    simp only [List.cons_append, List.nil_append] at N
    dsimp only [kstB] at F
    (try k_fold)
    repeat' ((fail_if_success (with_reducible show wpAny _ _ (pyIter _) _ _ _)); first | k_unfold | walk1 | (dsimp only; walk1))
    rename News _ _ _ _ => N1
    rename Fr _ _ _ _ => F1
    rename IsRange _ _ _ _ _ _ _ _ => R1
    rename _ < (4 : Int) => v4
    rename (0 : Int) ≤ _ => v0
    (with_unfolding_all refine' step_loop (n := ?n) _ _ _ _ _ _ _ _ _ ?oR _ (by rfl) R1 ?s1 ?s2 F1 N1 (fun _ hp => hp) ?kR ?ko2 ?kd ?m3 ?m4 ?m5 ?m6 els0 ?turn2 ?done2)
    case s1 => exact small_one (by omega) (by omega) (by omega) (by omega)
    case s2 => exact rangeSize_nat _ _
    case kR => k_mem
    case ko2 => refine off2 ?_ ?_ <;> k_all
    case kd => assumption
    case m3 => rfl
    case m4 => rfl
    case m5 => rfl
    case m6 => rfl
    case turn2 =>
      clear F1 N1 R1
      intro i2 t2 total tt k2 tk2 o kvs m₂ h2 tk3 ow2 own2 hi2 hown2 how2 hoff2 hRm hk2 hd2 hR2 F2 N2
      dsimp only [kstB] at F2
      (try k_fold)
      have hi2' : i2 < 4 := by omega
      subst hk2
      repeat' ((fail_if_success (with_reducible show wpAny _ _ (pyIter _) _ _ _)); first | k_unfold | walk1 | (dsimp only; walk1))
      rotate_left
      · exfalso
        rename ¬ els _ = _ => hne
        exact hne (els_rmask (by omega) (by omega) (by omega))
      rename News _ _ _ _ => N3
      rename Fr _ _ _ _ => F3
      rename IsRange _ _ _ _ _ _ _ _ => R3
      have N4 := kst_newsOf N3 (fun p hp => List.Mem.tail _ (List.Mem.tail _ hp))
      (with_unfolding_all refine' at_loop _ _ _ _ (by rfl) R3 ?s3 ?s4 F3 N4 swap_perm ?ko3 ?kd3 ?a0 ?a32 ?ak ?turn3 ?done3)
      case s3 => exact small_one (by omega) (by omega) (by omega) (by omega)
      case s4 => exact rangeSize_nat _ _
      case ko3 => refine off1 ?_; k_all
      case kd3 => assumption
      case a0 => omega
      case a32 => omega
      case ak => exact row_bounds hR2
      case turn3 =>
        clear F3 N3 N4 R3
        intro i3 t3 o3 kvs3 m3 h3 tk5 ow3 own3 hi3 hown3 how3 hoff3 hm3 hd3 hlen3 hy3 F3 N3
        (try k_fold)
        repeat' ((fail_if_success (with_reducible show InvEndG _ _ _ _ _ _)); first | k_unfold | walk1 | (dsimp only; walk1))
        rename News _ _ _ _ => N5
        rename Fr _ _ _ _ => F5
        rename Obj.IsDictOf _ _ _ => hd5
        exact at_end F5 N5 hown3 how3 (fun z hz => if_neg hz) hd5 hy3
      case done3 =>
        clear F3 N3 N4 R3
        intro u3 o4 kvs4 h4 tk6 hd4 hy4 F4 N4
        (try dsimp only)
        repeat' ((fail_if_success (with_reducible show InvEndG _ _ _ _ _ _)); first | k_unfold | walk1 | (dsimp only; walk1))
        exact step_end F4 N4 swap_perm hown2 how2 rfl rfl rfl rfl (by omega) hd4 (row_step hR2 (by omega) (by omega) (by omega) rfl hy4)
    case done2 =>
      clear F1 N1 R1
      intro m₃ total tt k5 tk7 o5 kvs5 h5 tk8 hk5 hd5 hR5 F5 N5
      dsimp only [kstB] at F5
      (try dsimp only)
      repeat' ((fail_if_success (with_reducible show InvEndG _ _ _ _ _ _)); first | k_unfold | walk1 | (dsimp only; walk1))
      rotate_left
      · exfalso
        rename List.Perm _ _ => hp1
        rename List.Pairwise _ _ => ho1
        rename ¬ els _ = _ => hne
        exact hne (row_sorted hd5 hR5 hp1 ho1).symm
      rename News _ _ _ _ => N6
      rename Fr _ _ _ _ => F6
      rename List.Perm _ _ => p2
      rename List.Pairwise _ _ => o2
      rename IntsAre _ _ => I2
      rename LedLt _ _ => L2
      clear p2 o2 I2 L2
      rename IntsAre _ _ => I2
      clear I2
      rename List.Perm _ _ => p1
      rename List.Pairwise _ _ => o1
      rename IntsAre _ _ => I1
      rename LedLt _ _ => L1
      rw [row_sorted hd5 hR5 p1 o1] at I1
      simp only [List.push_toArray] at N6
      refine' go_end F6 N6 ?hN hown hrl how ?hB ?hB2 rfl rfl ?hk0 ?hk1 hI hl1 hl2 hb hR5.1 hR5.2.1 hq I1
      case hN =>
        simp only [List.cons_append, List.nil_append]
        repeat (refine List.forall_mem_cons.mpr ⟨?_, ?_⟩; (focus k_mem))
        intro p hp
        repeat (first | exact hp | refine List.mem_cons_of_mem _ ?_)
      case hB => exact fun p hp => L1 p (by repeat (first | exact hp | refine List.mem_cons_of_mem _ ?_))
      case hB2 => exact ⟨L1 _ (.head _), L1 _ (.tail _ (.tail _ (.head _))), L1 _ (.tail _ (.tail _ (.tail _ (.head _))))⟩
      case hk0 => omega
      case hk1 => omega
  case done =>
    clear F0 N0 R0
    intro m₁ k tk' vs ms nM qs nQ rl h tk hI hl1 hl2 hb hrl hq F N
    simp only [List.cons_append, List.nil_append] at N
    dsimp only [kstB] at F
    obtain ⟨r3, hr3, hoff3, hq3⟩ := rows_only N (by intro p hp; repeat (first | exact hp | refine List.mem_cons_of_mem _ ?_)) hq
    have hr12 := off2 (hoff3 _ _ _ (List.mem_of_getElem? (i := 5) rfl) (by assumption)) (hoff3 _ _ _ (List.mem_of_getElem? (i := 4) rfl) (by assumption))
    have N1 := dbl_news N hr3
    clear N hq hr3 hoff3 hrl
    (try dsimp only)
    repeat' ((fail_if_success (with_reducible show wpAny _ _ (pyIter _) _ _ _)); first | k_unfold | walk1 | (dsimp only; walk1))
    rename News _ _ _ _ => N2
    rename Fr _ _ _ _ => F2
    rename IsRange _ _ _ _ _ _ _ _ => R2
    (with_unfolding_all refine' cell_loop1 (n := 3) _ _ _ _ _ _ _ _ (by rfl) R2 (by decide) (by rfl) F2 N2 (fun _ hp => hp) ?ko5 ?kd1 ?kd2 ?km5 ?turn5 ?done5)
    case ko5 => refine off2 ?_ ?_ <;> k_all
    case kd1 => assumption
    case kd2 => assumption
    case km5 => rfl
    case turn5 =>
      clear F2 N2 R2
      intro i t o1 o2 x1 x2 m₂ h2 tk2 ow own hi hown how hoff d1 d2 F N
      dsimp only [kstB] at F
      have hM := mem_how how 0 rfl
      have hW := mem_how how 1 rfl
      have hC := mem_how how 2 rfl
      obtain ⟨a, ta, qa, ya, na, aA, aQ, aR, aI, aB, aE⟩ := pos_facts hI hl1 hl2 hb hq3 i hi (0 + (i : Int)) (by omega)
      have aW := mem_how' how (List.mem_cons_of_mem _ (List.mem_cons_of_mem _ (List.mem_cons_of_mem _ aR)))
      (try dsimp only)
      repeat' ((fail_if_success (with_reducible show wpAny _ _ (pyIter _) _ _ _)); first | k_unfold | walk1 | (dsimp only; walk1))
      rename News _ _ _ _ => N2
      rename Fr _ _ _ _ => F2
      rename IsRange _ _ _ _ _ _ _ _ => R2
      (with_unfolding_all refine' cell_loop2 (n := 3) _ _ _ _ _ _ _ _ _ _ (by rfl) R2 (by decide) (by rfl) F2 N2 (fun _ hp => hp) hoff d1 d2 ?km6 ?km7 ?turn6 ?done6)
      case km6 => rfl
      case km7 => rfl
      case turn6 =>
        clear F2 N2 R2 d1 d2
        intro j u o3 o4 x3 x4 m₃ h3 tk3 ow2 own2 hj hown2 how2 hoff2 d3 d4 F N
        dsimp only [kstB] at F
        have hM2 := mem_how' how2 hM
        have hW2 := mem_how' how2 hW
        have hC2 := mem_how' how2 hC
        have aW2 := mem_how' how2 aW
        obtain ⟨b, tb, qb, yb, nb, bA, bQ, bR, bI, bB, bE⟩ := pos_facts hI hl1 hl2 hb hq3 j hj (0 + (j : Int)) (by omega)
        have bW := mem_how' how2 (mem_how' how (List.mem_cons_of_mem _ (List.mem_cons_of_mem _ (List.mem_cons_of_mem _ bR))))
        clear hM hW hC aW aR bR
        (try dsimp only)
        (try k_fold)
        repeat' ((fail_if_success (with_reducible show wpAny _ _ (eval (Expr.ListComp _ _ _ _) _) _ _ _)); first | k_unfold | walk1 | (dsimp only; walk1))
        refine LCt.ListComp_T (F₀ := by k_asm) (by with_unfolding_all rfl) (by decide) (by rfl) (by decide) (by rfl) ?_
        repeat' ((fail_if_success (with_reducible show LCt.CompSrcT _ _ _ _ _ _ _ _ _ _ _ _ _ _ _)); first | k_unfold | walk1 | (dsimp only; walk1))
        refine LCt.CompSrcT.range (by rfl) (by k_asm) (by k_asm) (by assumption) (by decide) (by first | exact rangeSize_nat _ _ | rfl) (by exact Nat.le_of_ble_eq_true rfl) ?_
        intro g1
        refine kci_range (pick fun k => decide (k ∈ els a) || decide (k ∈ els b)) (fun k t I oI C oC D m2 ys l h tk E' hlo hhi hI hC hx F2 N2 off ne hM => ?_) (fun y1 hy1 hl1 => ?_) (pick_grows _)
        · dsimp only
          (try k_fold)
          repeat' ((fail_if_success (with_reducible show LCg.CompEnd _ _ _ _ _ _ _ _ _ _ _ _ _)); first | k_unfold | walk1 | (dsimp only; walk1))
          all_goals dsimp only [LCg.CompEnd]
          all_goals (first | exact ⟨_, _, _, rfl, (by assumption), (by assumption), off, trivial, kci_el (pick_yes (by simp_all)) rfl rfl⟩ | exact ⟨_, _, _, rfl, (by assumption), (by assumption), off, trivial, kci_no (pick_no (by simp_all)) rfl⟩)
        unfold LCg.FinE
        intro D1 hD1 tkD1 FD1 ND1 offD1
        (try dsimp only)
        repeat' ((fail_if_success (with_reducible show wpAny _ _ (eval (Expr.ListComp _ _ _ _) _) _ _ _)); first | k_unfold | walk1 | (dsimp only; walk1))
        have la : ya.length ≤ 40 := by rw [aI.length]; exact els_len a
        refine LCt.ListComp_T (F₀ := by k_asm) (by with_unfolding_all rfl) (by decide) (by rfl) (by decide) (by rfl) ?_
        repeat' ((fail_if_success (with_reducible show LCt.CompSrcT _ _ _ _ _ _ _ _ _ _ _ _ _ _ _)); first | k_unfold | walk1 | (dsimp only; walk1))
        refine LCt.CompSrcT.ledger (its := List.toArray ya) (by rfl) (by k_asm) (by k_asm) (by k_mem) (by (rw [List.size_toArray]; exact kdl_size (by omega))) ?_
        intro g2
        refine kci_list (pick fun k => !decide (k ∈ els b)) aI (fun k t I oI C oC D m2 ys l h tk E' hmem hI hC hx F2 N2 off ne hM => ?_) (fun y2 hy2 hl2 => ?_) (pick_grows _)
        · dsimp only
          (try k_fold)
          repeat' ((fail_if_success (with_reducible show LCg.CompEnd _ _ _ _ _ _ _ _ _ _ _ _ _)); first | k_unfold | walk1 | (dsimp only; walk1))
          all_goals dsimp only [LCg.CompEnd]
          all_goals (first | exact ⟨_, _, _, rfl, (by assumption), (by assumption), off, (.inr ⟨_, by k_mem, rfl, _, rfl⟩), kci_el (pick_yes (by simp_all)) rfl rfl⟩ | exact ⟨_, _, _, rfl, (by assumption), (by assumption), off, (.inr ⟨_, by k_mem, rfl, _, rfl⟩), kci_no (pick_no (by simp_all)) rfl⟩)
        unfold LCg.FinE
        intro D2 hD2 tkD2 FD2 ND2 offD2
        (try dsimp only)
        repeat' ((fail_if_success (with_reducible show wpAny _ _ (eval (Expr.ListComp _ _ _ _) _) _ _ _)); first | k_unfold | walk1 | (dsimp only; walk1))
        refine LCt.ListComp_T (F₀ := by k_asm) (by with_unfolding_all rfl) (by decide) (by rfl) (by decide) (by rfl) ?_
        repeat' ((fail_if_success (with_reducible show LCt.CompSrcT _ _ _ _ _ _ _ _ _ _ _ _ _ _ _)); first | k_unfold | walk1 | (dsimp only; walk1))
        refine LCt.CompSrcT.ledger (its := List.toArray ya) (by rfl) (by k_asm) (by k_asm) (by k_mem) (by (rw [List.size_toArray]; exact kdl_size (by omega))) ?_
        intro g3
        refine kci_list (pick fun k => decide (k ∈ els b)) aI (fun k t I oI C oC D m2 ys l h tk E' hmem hI hC hx F2 N2 off ne hM => ?_) (fun y3 hy3 hl3 => ?_) (pick_grows _)
        · dsimp only
          (try k_fold)
          repeat' ((fail_if_success (with_reducible show LCg.CompEnd _ _ _ _ _ _ _ _ _ _ _ _ _)); first | k_unfold | walk1 | (dsimp only; walk1))
          all_goals dsimp only [LCg.CompEnd]
          all_goals (first | exact ⟨_, _, _, rfl, (by assumption), (by assumption), off, (.inr ⟨_, by k_mem, rfl, _, rfl⟩), kci_el (pick_yes (by simp_all)) rfl rfl⟩ | exact ⟨_, _, _, rfl, (by assumption), (by assumption), off, (.inr ⟨_, by k_mem, rfl, _, rfl⟩), kci_no (pick_no (by simp_all)) rfl⟩)
        unfold LCg.FinE
        intro D3 hD3 tkD3 FD3 ND3 offD3
        (try dsimp only)
        repeat' ((fail_if_success (with_reducible show wpAny _ _ (eval (Expr.ListComp _ _ _ _) _) _ _ _)); first | k_unfold | walk1 | (dsimp only; walk1))
        refine LCt.ListComp_T (F₀ := by k_asm) (by with_unfolding_all rfl) (by decide) (by rfl) (by decide) (by rfl) ?_
        repeat' ((fail_if_success (with_reducible show LCt.CompSrcT _ _ _ _ _ _ _ _ _ _ _ _ _ _ _)); first | k_unfold | walk1 | (dsimp only; walk1))
        refine LCt.CompSrcT.range (by rfl) (by k_asm) (by k_asm) (by assumption) (by decide) (by first | exact rangeSize_nat _ _ | rfl) (by exact Nat.le_of_ble_eq_true rfl) ?_
        intro g4
        refine kci_range (pick fun k => xor (decide (k ∈ els a)) (decide (k ∈ els b))) (fun k t I oI C oC D m2 ys l h tk E' hlo hhi hI hC hx F2 N2 off ne hM => ?_) (fun y4 hy4 hl4 => ?_) (pick_grows _)
        · dsimp only
          (try k_fold)
          repeat' ((fail_if_success (with_reducible show LCg.CompEnd _ _ _ _ _ _ _ _ _ _ _ _ _)); first | k_unfold | walk1 | (dsimp only; walk1))
          all_goals dsimp only [LCg.CompEnd]
          all_goals (first | exact ⟨_, _, _, rfl, (by assumption), (by assumption), off, trivial, kci_el (pick_yes (by simp_all)) rfl rfl⟩ | exact ⟨_, _, _, rfl, (by assumption), (by assumption), off, trivial, kci_no (pick_no (by simp_all)) rfl⟩)
        unfold LCg.FinE
        intro D4 hD4 tkD4 FD4 ND4 offD4
        (try dsimp only)
        repeat' ((fail_if_success (with_reducible show KdnMade _ _ _ _ _ _ _)); first | k_unfold | walk1 | (dsimp only; walk1))
        simp only [LCg.Off1] at offD1 offD2 offD3 offD4
        rename _ < _ ∧ _ < _ ∧ AllLt _ ow2 => hlt
        have hltow := hlt.2.2
        have hoffd := off1 (fun p hp => Nat.ne_of_lt (kst_ltOf hltow p hp))
        walk1
        repeat' ((fail_if_success (with_reducible show wpAny _ _ (exec (Stmt.For _ _ _ _ _) _) _ _ _)); first | k_unfold | walk1 | (dsimp only; walk1))
        rename Fr _ _ _ _ => F6
        (with_unfolding_all refine For_invVF F6 (by rfl) (by rfl) ?_)
        repeat' ((fail_if_success (with_reducible show wpAny _ _ (pyIter _) _ _ _)); first | k_unfold | walk1 | (dsimp only; walk1))
        replace hy1 : IntsAre y1 (els (Builtin.bitOr a b)) := by rw [law_plus aB bB]; exact hy1
        replace hy2 : IntsAre y2 (els (Builtin.bitAnd a (Builtin.bitXor full b))) := by rw [law_minus aB bB]; exact hy2
        replace hy3 : IntsAre y3 (els (Builtin.bitAnd a b)) := by rw [law_times aB bB]; exact hy3
        replace hy4 : IntsAre y4 (els (Builtin.bitXor a b)) := by rw [law_over aB bB]; exact hy4
        rename News _ _ _ _ => N7
        rename Fr _ _ _ _ => F7
        (with_unfolding_all refine' vals_loop4 _ _ _ _ _ _ (by rfl) (List.mem_cons_self) F7 N7 ?q1 ?q2 ?q3 ?q4 ?turn7 ?done7)
        case q1 => rfl
        case q2 => rfl
        case q3 => rfl
        case q4 => rfl
        case turn7 =>
          clear N7 F7
          intro v m₄ h4 tk4 own4 hv hown4 F8 N8
          dsimp only [kstB] at F8
          simp only [List.cons_append] at N8
          have hM3 := List.mem_append_left own4 hM2
          generalize hOw : ow2 ++ own4 = ow4 at N8 hM3
          (try dsimp only)
          (try k_fold)
          simp only [List.mem_cons, List.not_mem_nil, or_false] at hv
          rcases hv with rfl | rfl | rfl | rfl
          all_goals repeat' ((fail_if_success (with_reducible show InvEndG _ _ _ _ _ _)); (fail_if_success (with_reducible show GoodW _ _ _ _ _ _ _)); first | k_unfold | walk1 | (dsimp only; walk1))
          all_goals (
            rename News _ _ _ _ => N9
            rename Fr _ _ _ _ => F9
            refine vals_end F9 N9 ?_ hown4 (List.forall_mem_cons.mpr ⟨rfl, List.forall_mem_cons.mpr ⟨rfl, List.forall_mem_cons.mpr ⟨rfl, List.forall_mem_cons.mpr ⟨rfl, List.forall_mem_nil _⟩⟩⟩⟩)
            intro p hp
            simp only [List.cons_append, hOw] at hp
            repeat (first | exact hp | refine List.mem_cons_of_mem _ ?_))
        case done7 =>
          clear N7 F7
          intro m₄ h4 tk4 F8 N8
          dsimp only [kstB] at F8
          (try dsimp only)
          (try k_fold)
          have s1 : srel a b = 1 ↔ els (Builtin.bitAnd a (Builtin.bitXor full b)) = [] := by rw [srel_iff aB bB, ← law_minus aB bB]
          have s2 := srel_01 aB bB
          have k1 := common_in aB bB
          have k2 := in_sum aB bB
          repeat' ((fail_if_success (with_reducible show InvEndG _ _ _ _ _ _)); (fail_if_success (with_reducible show GoodW _ _ _ _ _ _ _)); first | k_unfold | walk1 | (dsimp only; walk1))
          all_goals (first
            | ((with_reducible show InvEndG _ _ _ _ _ _); skip)
            | (exfalso
               rename decide _ = _ => hdec
               first
                 | contradiction
                 | (have hv : srel a b = 1 := s1.mpr (of_decide_eq_true hdec); contradiction)
                 | (have hv : srel a b = 0 := s2.resolve_left (fun h => of_decide_eq_false hdec (s1.mp h)); contradiction)))
          all_goals (
            rename News _ _ _ _ => N9
            rename Fr _ _ _ _ => F9
            refine' cell_end F9 N9 ?hN hown2 how2 ?hm ?d1 ?d2
            case hN =>
              refine' List.forall_mem_cons.mpr ⟨?_, List.forall_mem_cons.mpr ⟨?_, ?_⟩⟩
              · k_mem
              · k_mem
              · intro p hp
                repeat (first | exact hp | refine List.mem_cons_of_mem _ ?_)
            case hm => exact List.forall_mem_cons.mpr ⟨rfl, List.forall_mem_cons.mpr ⟨rfl, List.forall_mem_nil _⟩⟩
            case d1 => assumption
            case d2 => assumption)
      case done6 =>
        clear F2 N2 R2
        intro m₄ o5 o6 x5 x6 h5 tk5 d5 d6 F8 N8
        dsimp only [kstB] at F8
        (try dsimp only)
        repeat' ((fail_if_success (with_reducible show InvEndG _ _ _ _ _ _)); first | k_unfold | walk1 | (dsimp only; walk1))
        exact cell_end F8 N8 (fun p hp => hp) hown how (List.forall_mem_cons.mpr ⟨rfl, List.forall_mem_nil _⟩) d5 d6
    case done5 =>
      clear F2 N2 R2
      intro m₄ o5 o6 x5 x6 h5 tk5 d5 d6 F8 N8
      dsimp only [kstB] at F8
      obtain ⟨a, ta, qa, ya, na, aA, aQ, aR, aI, aB, aE⟩ := pos_facts hI hl1 hl2 hb hq3 0 (by decide) 0 rfl
      (try dsimp only)
      (try k_fold)
      repeat' ((fail_if_success (with_reducible show wpAny _ _ (eval (Expr.ListComp _ _ _ _) _) _ _ _)); first | k_unfold | walk1 | (dsimp only; walk1))
      refine LCt.ListComp_T (F₀ := by k_asm) (by with_unfolding_all rfl) (by decide) (by rfl) (by decide) (by rfl) ?_
      repeat' ((fail_if_success (with_reducible show LCt.CompSrcT _ _ _ _ _ _ _ _ _ _ _ _ _ _ _)); first | k_unfold | walk1 | (dsimp only; walk1))
      refine LCt.CompSrcT.range (by rfl) (by k_asm) (by k_asm) (by assumption) (by decide) (by first | exact rangeSize_nat _ _ | rfl) (by exact Nat.le_of_ble_eq_true rfl) ?_
      intro g5
      refine kci_range (pick fun k => !decide (k ∈ els a)) (fun k t I oI C oC D m2 ys l h tk E' hlo hhi hI hC hx F2 N2 off ne hM => ?_) (fun y5 hy5 hl5 => ?_) (pick_grows _)
      · dsimp only
        (try k_fold)
        repeat' ((fail_if_success (with_reducible show LCg.CompEnd _ _ _ _ _ _ _ _ _ _ _ _ _)); first | k_unfold | walk1 | (dsimp only; walk1))
        all_goals dsimp only [LCg.CompEnd]
        all_goals (first | exact ⟨_, _, _, rfl, (by assumption), (by assumption), off, trivial, kci_el (pick_yes (by simp_all)) rfl rfl⟩ | exact ⟨_, _, _, rfl, (by assumption), (by assumption), off, trivial, kci_no (pick_no (by simp_all)) rfl⟩)
      unfold LCg.FinE
      intro D5 hD5 tkD5 FD5 ND5 offD5
      replace hy5 : IntsAre y5 (els (Builtin.bitAnd 4294967295 (Builtin.bitXor full a))) := by rw [law_rest aB]; exact hy5
      have hw := law_whole aB
      (try dsimp only)
      repeat' ((fail_if_success (with_reducible show GoodW _ _ _ _ _ _ _)); first | k_unfold | walk1 | (dsimp only; walk1))
      all_goals (first
        | (exfalso; rename ¬ els _ = els _ => hne; exact hne rfl)
        | (rw [hw]; k_steps)
        | k_steps))
end
end Mine

theorem PySem.Challenge.cw_pb0304_01_holds : PySem.Challenge.rw_pb0304_01.Holds := by
  exact Mine.see
