import PyProof.Rows.All
import Wide.All
import OpenK.AllK
import Wide.FinOn
import PySem.Challenge.RW_no0346_01
open PySem PySem.W PyProof.Rows PySem.Calls PyProof.V PySem.Spec
set_option Elab.async false
set_option maxRecDepth 100000
set_option maxHeartbeats 8000000
set_option pp.deepTerms false

namespace Mine
open_top hd0346 for PySem.Challenge.rw_no0346_01
end Mine

-- F1
namespace Mine
/-- the claim of a def: what a call of it gives back, the ledger as it was -/
abbrev Claim (w : World) (loose : List Str) (mean : ExcName → Option Value) (mg mb : Str → Option Value) (f : Addr) (k : Nat) (pre : Prop) (vs : List Value) (R : Tok → Value) : Prop :=
  ∀ (dp un : Nat) (gd : Option (List Code)) (cn : Str) (cs : Scope) (a : Addr) (ccd : Value) (cl : List (Str × Addr)) (outer : List Env) (A₀ : Around) (base h₀ : Heap) (L : Addr) (m : Str → Option Value) (news : List (Addr × Obj)) (s : Shared) (Q E : Value → Shared → Prop),
    Below A₀ base outer h₀ → Fr h₀ L s.heap m → (hd0346.heap_39 w.params).In h₀ → News h₀ L s.heap news → Top hd0346.view_39 loose mean mg mb h₀ → cs.kind = .function →
    pre → dp + k < recursionLimit → un + 8 * k < cLine → CbRet h₀ L m news s Q R →
      wpAny (model PySem.Challenge.rw_no0346_01.row.prog w) (ktrTop dp un gd cn cs L a ccd cl outer) (call (.ref f) vs) Q E s

theorem Claim.use {w : World} {loose : List Str} {mean : ExcName → Option Value} {mg mb : Str → Option Value} {f : Addr} {k : Nat} {pre : Prop} {vs : List Value} {R : Tok → Value}
    (C : Claim w loose mean mg mb f k pre vs R) {dp un : Nat} {gd : Option (List Code)} {cn : Str} {cs : Scope} {a : Addr} {ccd : Value} {cl : List (Str × Addr)} {outer : List Env} {A₀ : Around} {base h₀ : Heap} {L : Addr} {m : Str → Option Value} {news : List (Addr × Obj)} {s : Shared} {Q E : Value → Shared → Prop}
    (B : Below A₀ base outer h₀) (F : Fr h₀ L s.heap m) (X : (hd0346.heap_39 w.params).In h₀) (N : News h₀ L s.heap news) (T : Top hd0346.view_39 loose mean mg mb h₀) (hk : cs.kind = .function)
    (hp : pre) (hd : dp + k < recursionLimit) (hu : un + 8 * k < cLine) (ret : CbRet h₀ L m news s Q R) :
    wpAny (model PySem.Challenge.rw_no0346_01.row.prog w) (ktrTop dp un gd cn cs L a ccd cl outer) (call (.ref f) vs) Q E s := C _ _ _ _ _ _ _ _ _ _ _ _ _ _ _ _ _ _ B F X N T hk hp hd hu ret

def hexw (c : Int) : Int := if 48 ≤ c ∧ c ≤ 57 then c - 48 else if 65 ≤ c ∧ c ≤ 70 then c - 55 else if 97 ≤ c ∧ c ≤ 102 then c - 87 else -1

theorem hex_worth (w : World) (loose : List Str) (mean : ExcName → Option Value) (mg mb : Str → Option Value) (c : Int) (t : Tok) :
    Claim w loose mean mg mb 28 1 True [.int c t] (fun t => .int (hexw c) t) := by
  unfold Claim; k_fill
  intro dp un gd cn cs a ccd cl outer A₀ base h₀ L m news s Q E B F X N T hk _ hd hu hret
  refine wpAny_call ?_
  w_top off
  k_dflt cell_enter
  k_steps
  all_goals (
    refine' cb_retI hret ?e1 ?e2 ?e3
    (case e2 => assumption)
    (case e3 => first | assumption | (refine' cb_drop ?cbN ?cbS; (case cbN => assumption); (case cbS => kcj_all)))
    (case e1 =>
      simp only [decide_eq_true_eq, decide_eq_false_iff_not, Bool.not_eq_true, Bool.not_eq_false] at *
      unfold hexw
      repeat' split
      all_goals omega))

def qat (ks : List Int) (i : Int) : Int :=
  if i + 2 ≥ (ks.length : Int) then -1
  else if hexw (ks.getD (i + 1).toNat 0) ≥ 0 ∧ hexw (ks.getD (i + 2).toNat 0) ≥ 0 then 16 * hexw (ks.getD (i + 1).toNat 0) + hexw (ks.getD (i + 2).toNat 0) else -1

theorem hexw_lt (c : Int) : -1 ≤ hexw c ∧ hexw c < 16 := by
  unfold hexw; repeat' split
  all_goals omega

local macro_rules | `(tactic| walk_at "call ref") => `(tactic| (k_here; k_dflt (refine' Claim.use (hex_worth _ _ _ _ _ _ _) ?k1 ?k2 ?k3 ?k4 ?k5 ?kK ?kp ?kd ?ku ?_; (case k1 => k_asm); (case k2 => k_asm); (case k3 => k_asm); (case k4 => k_asm); (case k5 => k_asm); (case kK => first | exact rfl | assumption); (case kp => trivial); (case kd => ktr_room); (case ku => ktr_units)); intro t9 h9 tk9 F9 N9; (try dsimp only); (try k_fold)))

local macro_rules | `(tactic| walk_at "subscriptTail") => `(tactic| (k_here; (with_reducible show wpAny _ _ (subscriptTail _ _ (Value.bytes _ _) (Value.int _ _)) _ _ _); k_dflt (refine' KBw.item_K rfl ?k1 ?k2 ?k3 ?_; (case k1 => (simp only [KBw.ints_length]; omega)); (case k2 => omega); (case k3 => (simp only [KBw.ints_length]; omega))); intro t9 k9 lo9 hi9; (try dsimp only)))

theorem quoted_at (w : World) (loose : List Str) (mean : ExcName → Option Value) (mg mb : Str → Option Value) (b : Array UInt8) (tb : Tok) (i : Int) (t : Tok) :
    Claim w loose mean mg mb 35 2 (0 ≤ i ∧ i < (b.size : Int) ∧ b.size ≤ 1000000) [.bytes b tb, .int i t] (fun t => .int (qat (KBw.bInts b) i) t) := by
  unfold Claim; k_fill
  intro dp un gd cn cs a ccd cl outer A₀ base h₀ L m news s Q E B F X N T hk hpre hd hu hret
  obtain ⟨hi0, hi1, hbs⟩ := hpre
  have hlen := KBw.ints_length b
  refine wpAny_call ?_
  w_top off
  k_dflt cell_enter
  k_steps
  all_goals (
    refine' cb_retI hret ?e1 ?e2 ?e3
    (case e2 => assumption)
    (case e3 => first | assumption | (refine' cb_drop ?cbN ?cbS; (case cbN => assumption); (case cbS => kcj_all)))
    (case e1 =>
      unfold qat
      repeat' split
      all_goals first | rfl | omega))
end Mine

-- F2
namespace Mine

def unq : List Int → List Int
  | [] => []
  | [c] => [c]
  | [c, d] => [c, d]
  | c :: a :: b :: r => if c = 61 ∧ hexw a ≥ 0 ∧ hexw b ≥ 0 then (16 * hexw a + hexw b) :: unq r else c :: unq (a :: b :: r)

theorem unq_end {c : Int} {r : List Int} (h : ¬ (c = 61 ∧ 2 ≤ r.length ∧ hexw (r.getD 0 0) ≥ 0 ∧ hexw (r.getD 1 0) ≥ 0)) : unq (c :: r) = c :: unq r := by
  match r with
  | [] => simp [unq]
  | [d] => simp [unq]
  | a :: b :: r =>
    rw [unq]
    simp only [List.length_cons, List.getD_cons_zero, List.getD_cons_succ] at h
    rw [if_neg]
    intro ⟨h1, h2, h3⟩
    exact h ⟨h1, by omega, h2, h3⟩

theorem drop_cons {ks : List Int} {i : Int} (h0 : 0 ≤ i) (h1 : i < (ks.length : Int)) : ks.drop i.toNat = ks.getD i.toNat 0 :: ks.drop (i + 1).toNat := by
  have h : i.toNat < ks.length := by omega
  have e : (i + 1).toNat = i.toNat + 1 := by omega
  rw [e, List.drop_eq_getElem_cons h, List.getD_eq_getElem?_getD, List.getElem?_eq_getElem h]
  rfl

theorem unq_code {ks : List Int} {i : Int} (h0 : 0 ≤ i) (h1 : i < (ks.length : Int)) (hc : ks.getD i.toNat 0 = 61) (hq : 0 ≤ qat ks i) : unq (ks.drop i.toNat) = qat ks i :: unq (ks.drop (i + 3).toNat) ∧ i + 3 ≤ ks.length := by
  unfold qat at hq ⊢
  split at hq
  · omega
  · rename_i hl
    split at hq
    · rename_i hh
      rw [if_neg hl, if_pos hh]
      rw [drop_cons h0 h1, drop_cons (i := i + 1) (by omega) (by omega), drop_cons (i := i + 1 + 1) (by omega) (by omega)]
      rw [show i + 1 + 1 = i + 2 by omega, show i + 2 + 1 = i + 3 by omega]
      rw [unq, if_pos ⟨hc, hh.1, hh.2⟩]
      exact ⟨rfl, by omega⟩
    · omega

theorem unq_plain {ks : List Int} {i : Int} (h0 : 0 ≤ i) (h1 : i < (ks.length : Int)) (hq : ks.getD i.toNat 0 = 61 → ¬ 0 ≤ qat ks i) : unq (ks.drop i.toNat) = ks.getD i.toNat 0 :: unq (ks.drop (i + 1).toNat) := by
  rw [drop_cons h0 h1]
  refine unq_end ?_
  intro ⟨hc, hl, ha, hb⟩
  refine hq hc ?_
  rw [List.length_drop] at hl
  rw [drop_cons (i := i + 1) (by omega) (by omega)] at ha hb
  rw [drop_cons (i := i + 1 + 1) (by omega) (by omega)] at hb
  simp only [List.getD_cons_zero, List.getD_cons_succ] at ha hb
  rw [show i + 1 + 1 = i + 2 by omega] at hb
  unfold qat
  rw [if_neg (by omega), if_pos ⟨ha, hb⟩]
  omega

theorem qat_lt (ks : List Int) (i : Int) : -1 ≤ qat ks i ∧ qat ks i < 256 := by
  have := hexw_lt (ks.getD (i + 1).toNat 0)
  have := hexw_lt (ks.getD (i + 2).toNat 0)
  unfold qat; repeat' split
  all_goals omega


def UnqP (bs : List Int) (ks : List Int) (i : Int) : Prop := 0 ≤ i ∧ i ≤ (bs.length : Int) ∧ (ks.length : Int) ≤ i ∧ (∀ k ∈ ks, 0 ≤ k ∧ k < 256) ∧ ks ++ unq (bs.drop i.toNat) = unq bs
theorem UnqP.lo {bs ks : List Int} {i : Int} (h : UnqP bs ks i) : 0 ≤ i := h.1
theorem UnqP.hi {bs ks : List Int} {i : Int} (h : UnqP bs ks i) : i ≤ (bs.length : Int) := h.2.1
theorem UnqP.len {bs ks : List Int} {i : Int} (h : UnqP bs ks i) : (ks.length : Int) ≤ i := h.2.2.1
theorem UnqP.rng {bs ks : List Int} {i : Int} (h : UnqP bs ks i) : KBa.In ks := h.2.2.2.1
theorem unqP_code {bs ks : List Int} {i : Int} (h : UnqP bs ks i) (h1 : i < (bs.length : Int)) (hc : bs.getD i.toNat 0 = 61) (hq : 0 ≤ qat bs i) : UnqP bs (ks ++ [qat bs i]) (i + 3) := by
  obtain ⟨a0, a1, a2, a3, a4⟩ := h
  obtain ⟨e, hl⟩ := unq_code a0 h1 hc hq
  have hb := qat_lt bs i
  refine ⟨by omega, hl, by simp only [List.length_append, List.length_cons, List.length_nil]; omega, ?_, ?_⟩
  · intro k hk
    rcases List.mem_append.mp hk with hk | hk
    · exact a3 k hk
    · rw [List.mem_singleton.mp hk]; omega
  · rw [List.append_assoc, List.singleton_append, ← e]; exact a4
theorem unqP_plain {bs ks : List Int} {i : Int} (h : UnqP bs ks i) (h1 : i < (bs.length : Int)) (hq : bs.getD i.toNat 0 = 61 → ¬ 0 ≤ qat bs i) (hb : 0 ≤ bs.getD i.toNat 0 ∧ bs.getD i.toNat 0 < 256) : UnqP bs (ks ++ [bs.getD i.toNat 0]) (i + 1) := by
  obtain ⟨a0, a1, a2, a3, a4⟩ := h
  have e := unq_plain a0 h1 hq
  refine ⟨by omega, by omega, by simp only [List.length_append, List.length_cons, List.length_nil]; omega, ?_, ?_⟩
  · intro k hk
    rcases List.mem_append.mp hk with hk | hk
    · exact a3 k hk
    · rw [List.mem_singleton.mp hk]; exact hb
  · rw [List.append_assoc, List.singleton_append, ← e]; exact a4

abbrev UnqSt := List Value × List Int × Nat × Int × Tok
abbrev unqLed (l : Addr) (news : List (Addr × Obj)) (c : UnqSt) : List (Addr × Obj) := (l, listOf c.1.toArray c.2.2.1) :: news
abbrev unqPs (c : UnqSt) : List (Str × Value) := [(Str.ofString "at", .int c.2.2.2.1 c.2.2.2.2)]
abbrev unqFacts (c : UnqSt) : Prop := IntsAre c.1 c.2.1
abbrev unqInv (bs : List Int) (c : UnqSt) : Prop := UnqP bs c.2.1 c.2.2.2.1
abbrev unqMu (bs : List Int) (c : UnqSt) : Nat := ((bs.length : Int) - c.2.2.2.1).toNat
theorem unq_while {prog : Program} {w : World} {A : Around} {E : Value → Shared → Prop} {Q : Flow → Shared → Prop} {s : Shared} {env : Env} {h₀ : Heap} {L : Addr} {l : Addr} {news : List (Addr × Obj)} {t0 : Tok}
    {test : Expr} {body : List Stmt} {pos : Pos} {m₀ : Str → Option Value} {b : Array UInt8} {tb : Tok} {bs : List Int}
    (F : Fr h₀ L s.heap m₀) (N : News h₀ L s.heap ((l, listOf #[] 0) :: news)) (hl : m₀ (Str.ofString "line") = some (.bytes b tb)) (hk : m₀ (Str.ofString "at") = some (.int 0 t0)) (hbs : KBw.bInts b = bs)
    (turn : ∀ (vs : List Value) (ks : List Int) (n : Nat) (i : Int) (ti : Tok) (u : Str → Option Value) h tk, IntsAre vs ks → UnqP bs ks i → Fr h₀ L h (kstB (fun z => if [Str.ofString "code"].contains z then u z else m₀ z) [(Str.ofString "at", .int i ti)]) → News h₀ L h ((l, listOf vs.toArray n) :: news) →
      wpAny (model prog w) A (isTrue test env (eval test env)) (fun b s₂ =>
        if b = true then wpAny (model prog w) A (execs body env) (KswPost h₀ L s (unqLed l news) unqPs unqFacts [Str.ofString "code"] m₀ (unqInv bs) (unqMu bs) Q (vs, ks, n, i, ti)) E s₂ else Q .next s₂) E { s with heap := h, toks := tk })
    (hE : PassesOwn (model prog w) A env E := by passes_own) :
    wpAny (model prog w) A (exec (.While test body [] pos) env) Q E s := by
  refine ksw_while (unqLed l news) unqPs unqFacts [Str.ofString "code"] (unqInv bs) (unqMu bs) ([], [], 0, 0, t0) F N ?_ ?_ ?_ ?_ hE
  · exact .nil
  · intro p hp
    rw [List.mem_singleton.mp hp]
    exact hk
  · exact ⟨Int.le_refl _, Int.natCast_nonneg _, Int.le_refl _, (fun _ h => nomatch h), by simp⟩
  · intro c u h tk hf hp F' N'
    exact turn c.1 c.2.1 c.2.2.1 c.2.2.2.1 c.2.2.2.2 u h tk hf hp F' N'

local macro_rules | `(tactic| walk_at "subscriptTail") => `(tactic| (k_here; (try dsimp only); (with_reducible show wpAny _ _ (subscriptTail _ _ (Value.bytes _ _) (Value.int _ _)) _ _ _); k_dflt (refine' KBw.item_K rfl ?k1 ?k2 ?k3 ?_; (case k1 => (simp only [KBw.ints_length]; omega)); (case k2 => omega); (case k3 => (simp only [KBw.ints_length]; omega))); intro t9 k9 lo9 hi9; (try dsimp only)))
local macro_rules | `(tactic| walk_at "call ref") => `(tactic| (k_here; k_dflt (refine' Claim.use (quoted_at _ _ _ _ _ _ _ _ _) ?k1 ?k2 ?k3 ?k4 ?k5 ?kK ?kp ?kd ?ku ?_; (case k1 => k_asm); (case k2 => k_asm); (case k3 => k_asm); (case k4 => k_asm); (case k5 => k_asm); (case kK => first | exact rfl | assumption); (case kp => (refine ⟨?_, ?_, ?_⟩ <;> omega)); (case kd => ktr_room); (case ku => ktr_units)); intro t9 h9 tk9 F9 N9; (try dsimp only); (try k_fold)))

theorem unq_end2 {s : Shared} {h₀ : Heap} {L l : Addr} {news : List (Addr × Obj)} {m₀ m' : Str → Option Value} {bs ks : List Int} {vs : List Value} {n n' : Nat} {i i' k : Int} {ti t' t : Tok} {h' : Heap} {tk : Nat}
    (F : Fr h₀ L h' m') (N : News h₀ L h' ((l, listOf (vs.toArray.push (.int k t)) n') :: news)) (hat : m' (Str.ofString "at") = some (.int i' t')) (hr : ∀ z, z ≠ Str.ofString "at" → z ≠ Str.ofString "code" → m' z = m₀ z)
    (hI : IntsAre vs ks) (hp : UnqP bs (ks ++ [k]) i') (h0 : 0 ≤ i) (hm : i < i') :
    KswEnd h₀ L s (unqLed l news) unqPs unqFacts [Str.ofString "code"] m₀ (unqInv bs) (unqMu bs) (vs, ks, n, i, ti) { s with heap := h', toks := tk } := by
  refine ksw_end (news' := (l, listOf (vs ++ [Value.int k t]).toArray n') :: news) (vs ++ [Value.int k t], ks ++ [k], n', i', t') F (by simpa only [List.push_toArray] using N) (fun p hp => hp) (hI.append (IntsAre.cons _ _ IntsAre.nil)) ?_ ?_ hp ?_
  · intro p hp
    rw [List.mem_singleton.mp hp]
    exact hat
  · intro z h1 h2
    refine hr z (h1 _ (.head _)) ?_
    intro e
    subst e
    simp at h2
  · have := hp.2.1
    show ((bs.length : Int) - i').toNat < ((bs.length : Int) - i).toNat
    omega

theorem unqP_done {bs ks : List Int} {i : Int} (h : UnqP bs ks i) (h1 : ¬ i < (bs.length : Int)) : ks = unq bs := by
  have e := h.2.2.2.2
  have : i.toNat = bs.length := by have := h.2.1; omega
  rw [this, List.drop_length, unq, List.append_nil] at e
  exact e
theorem cb_retY {h₀ h' : Heap} {L : Addr} {m : Str → Option Value} {news : List (Addr × Obj)} {s : Shared} {Q : Value → Shared → Prop} {t : Tok} {tk' : Nat} {x y : Array UInt8} (hret : ∀ (t : Tok) (h' : Heap) (tk' : Nat), Fr h₀ L h' m → News h₀ L h' news → Q (.bytes x t) { s with heap := h', toks := tk' }) (e : y = x) (F : Fr h₀ L h' m) (N : News h₀ L h' news) : Q (.bytes y t) { s with heap := h', toks := tk' } := by
  subst e
  exact hret t h' tk' F N

local macro_rules | `(tactic| walk_at "KswEnd") => `(tactic| ((refine' unq_end2 ?F ?N ?a ?r ?I ?p ?z ?m; (case F => assumption); (case N => assumption); (case a => with_unfolding_all exact rfl); (case r => (intro z9 h8 h9; simp [h8, h9, kstB])); (case I => assumption); (case p => first | exact unqP_code (by assumption) (by simp only [KBw.ints_length]; omega) (by assumption) (by assumption) | exact unqP_plain (by assumption) (by simp only [KBw.ints_length]; omega) (by intro e9 q9; first | contradiction | omega) ⟨by assumption, by assumption⟩); (case z => assumption); (case m => omega))))
local macro_rules | `(tactic| walk_at "exec While Compare") => `(tactic| (k_here; ((rename Fr _ _ _ _ => lF'); (rename News _ _ _ _ => lN'); (with_unfolding_all refine' unq_while lF' lN' ?kl ?kk rfl ?_); (case kl => (with_unfolding_all exact rfl)); (case kk => (with_unfolding_all exact rfl)); clear lF' lN'; intro vs ks n i ti u h tk hInts hInv F9 N9; (have hi0 := UnqP.lo hInv); (have hi1 := UnqP.hi hInv); (have hkl := UnqP.len hInv); (have hkr := UnqP.rng hInv); (try k_fold))))

theorem unquoted (w : World) (loose : List Str) (mean : ExcName → Option Value) (mg mb : Str → Option Value) (b : Array UInt8) (tb : Tok) :
    Claim w loose mean mg mb 42 3 (b.size ≤ 1000000) [.bytes b tb] (fun t => .bytes (byteArr (unq (KBw.bInts b))) t) := by
  unfold Claim; k_fill
  intro dp un gd cn cs a ccd cl outer A₀ base h₀ L m news s Q E B F X N T hk hbs hd hu hret
  have hlen := KBw.ints_length b
  refine wpAny_call ?_
  w_top off
  k_dflt cell_enter
  k_steps
  all_goals (
    refine' cb_retY hret ?e1 ?e2 ?e3
    (case e2 => assumption)
    (case e3 => first | assumption | (refine' cb_drop ?cbN ?cbS; (case cbN => assumption); (case cbS => kcj_all)))
    (case e1 => exact congrArg byteArr (unqP_done (by assumption) (by simp only [KBw.ints_length]; omega))))
end Mine

-- F3
namespace Mine
local macro_rules | `(tactic| walk_at "pad") => `(tactic| skip)

def BytesAt (b : Array UInt8) (i : Nat) (v : Value) : Prop := ∃ c u, b[i]? = some c ∧ v = .int (c.toNat : Int) u
theorem bytesAt_int {b : Array UInt8} {i : Nat} {v : Value} (h : BytesAt b i v) : ∃ k t, (KBw.bInts b)[i]? = some k ∧ v = .int k t := by
  obtain ⟨c, u, e, rfl⟩ := h
  exact ⟨_, u, KBw.ints_get e, rfl⟩

section
variable {prog : Program} {w : World} {A : Around} {E : Value → Shared → Prop} {s : Shared} {h₀ : Heap} {L : Addr} {m : Str → Option Value} {env : Env}
def SrcB (prog : Program) (w : World) (A : Around) (h₀ : Heap) (L : Addr) (m : Str → Option Value) (env : Env) (elt : Expr) (x : Str) (scope : Scope) (cl : List (Str × Addr)) (Fin : Shared → List Value → List (Addr × Obj) → Prop) (xv : Value) (s₁ : Shared) : Prop :=
  ∃ b t news, xv = .bytes b t ∧ A.handled = none ∧ Fr h₀ L s₁.heap m ∧ News h₀ L s₁.heap news ∧ b.size ≤ sizeLine ∧
    ∀ g : Heap, LCg.CompRest prog w A h₀ L m env elt x scope cl { s₁ with heap := g } (fun _ => True) (BytesAt b) (Fin { s₁ with heap := g }) b.size 0 [] news
theorem ListComp_B {elt iter : Expr} {x : Str} {px : Pos} {scope : Scope} {cl : List (Str × Addr)} {pos : Pos} {Q : Value → Shared → Prop} (_F₀ : Fr h₀ L s.heap m)
    (hclos : closureFor scope env = pure cl) (hcell : ∀ y ∈ scope.names, y.2 ≠ .cell) (hkind : scope.kind = .function)
    (hnames : ∀ y ∈ scope.names, y.2 = .local → scope.names.lookup y.1 = some .local) (hx : scope.names.lookup x = some .local)
    (h : wpAny (model prog w) A (eval iter env) (SrcB prog w A h₀ L m env elt x scope cl (fun s₂ => LCg.FinE h₀ L m s₂ Q)) E s)
    (hs : ∀ x, foldedSetIterable iter env x = pure x := by intro _; rfl) :
    wpAny (model prog w) A (eval (.ListComp elt [⟨.Name x px, iter, [], 0⟩] scope pos) env) Q E s := by
  rw [eval_ListComp]
  refine wpAny_comprehension_free (use := none) rfl hs hclos hkind hnames (wpAny_mono h (fun xv s₁ h₁ => ?_) fun _ _ e => e)
  obtain ⟨b, t, news, rfl, hh, F, N, hsz, R⟩ := h₁
  refine KBw.pyIter_bytes ?_
  refine LCg.block_U (P := BytesAt b) (St := fun i h => KBw.IsBytesIter h s₁.heap.objs.size b t i) (KBw.walks hh s₁.heap.objs.size b t) hsz (fun i h st => let ⟨o, e, _⟩ := st; ⟨o, e⟩) (fun i h h' o nw st e e' _ _ _ => by obtain ⟨o', q, r⟩ := st; rw [e] at q; cases q; exact ⟨o, e', r⟩) hcell hkind hx ⟨_, Heap.get?_push_size _ rfl, rfl, rfl⟩ (fun b hb => ?_)
    (F.keeps fun _ _ e => Heap.get?_push_of_some _ e) (N.grown fun _ _ e => Heap.get?_push_of_some _ e) (Nat.ne_of_lt F.ns.lt) (next_is_new F) (fun p hp => Nat.ne_of_lt (Heap.lt_size (N p hp).1)) trivial (R _) ?_
  · rw [List.mem_singleton.mp hb]
    show s₁.heap.objs.size < (s₁.heap.push _).objs.size
    rw [Heap.size_push]; exact Nat.lt_succ_self _
  · intro D C h tk m' ys news' F' N' o1 hn hC₀ hD₀ hCL hDL hCD offC fin
    refine ⟨m', hn, fun h'' hs'' => fin D h'' tk (F'.change hs'' hCL hC₀) (fun p hp => ?_) o1⟩
    refine ⟨hs''.extBut _ _ ?_ (N' p hp).1, (N' p hp).2⟩
    rcases List.mem_cons.mp hp with rfl | hp
    · exact Ne.symm hCD
    · exact offC p hp
/-- the source: bytes, each element an int by a function -/
theorem srcB_ints {elt : Expr} {x : Str} {scope : Scope} {cl : List (Str × Addr)} {Fin : Shared → List Value → List (Addr × Obj) → Prop} {b : Array UInt8} {t : Tok} {news : List (Addr × Obj)} (g : Int → Int)
    (hh : A.handled = none) (F : Fr h₀ L s.heap m) (N : News h₀ L s.heap news) (hz : b.size ≤ sizeLine)
    (turn : ∀ k t I oI C oC D m₂ ys h tk (E' : Value → Shared → Prop), 0 ≤ k → k < 256 → LCg.NsObj oC m₂ → m₂ x = some (.int k t) → Fr h₀ L h m → News h₀ L h ((I, oI) :: (C, oC) :: (D, LCg.lst ys) :: news) → LCg.Off3 I C D news → ((@Ne Nat I C) ∧ (@Ne Nat I D) ∧ (@Ne Nat C D)) → KPfMark →
      wpAny (model prog w) A (eval elt (compEnvC scope cl C env)) (LCg.CompEnd h₀ L m { s with heap := h, toks := tk } I oI C oC D (LCg.lst ys) (fun _ => True) (fun y news' => KCfEl news (g k) y news')) E' { s with heap := h, toks := tk })
    (fin : ∀ (h : Heap) ys, IntsAre ys ((KBw.bInts b).map g) → KBa.In (KBw.bInts b) → Fin { s with heap := h } ys news) :
    SrcB prog w A h₀ L m env elt x scope cl Fin (.bytes b t) s := by
  refine ⟨b, t, news, rfl, hh, F, N, hz, fun h => kcf_rest (ks := KBw.bInts b) g (KBw.ints_length b) (fun i v _ hv => bytesAt_int hv) ?_ (fun ys hy => fin _ ys hy fun _ h => KBw.ints_in h)⟩
  intro k t I oI C oC D m₂ ys h tk E' hk hC hx F N off ne mk
  exact turn k t I oI C oC D m₂ ys h tk E' (KBw.ints_in hk).1 (KBw.ints_in hk).2 hC hx F N off ne mk
end

def blk (c : Int) : Int := if c = 95 then 32 else c
theorem blk_in {ks : List Int} (h : KBa.In ks) : KBa.In (ks.map blk) := by
  intro n hn
  obtain ⟨c, hc, rfl⟩ := List.mem_map.mp hn
  have := h c hc
  unfold blk; split <;> omega
theorem bInts_in (b : Array UInt8) : KBa.In (KBw.bInts b) := fun _ h => KBw.ints_in h

local macro_rules | `(tactic| walk_at "eval ListComp") => `(tactic| (k_here; (k_dflt (refine' ListComp_B ?F0 ?a ?b ?c ?d ?e ?_; (case F0 => k_asm); (case a => with_unfolding_all rfl); (case b => decide); (case c => with_unfolding_all rfl); (case d => decide); (case e => with_unfolding_all rfl)))))
local macro_rules | `(tactic| walk_at "SrcB") => `(tactic| (k_here; (k_dflt (refine' srcB_ints blk ?h ?F ?N ?z ?t ?f; (case h => rfl); (case F => k_asm); (case N => k_asm); (case z => (rw [PySem.sizeLine_eq]; omega)); (case' t => (intro k' t' I' oI' C' oC' D' m' ys' h' tk' E' hlo' hhi' hC' hx' F' N' off' ne' hMark'; (try k_fold))); (case' f => (intro s2 ys' hys' hbIn'; (have hysIn := blk_in hbIn'); (try k_fold)))))))
local macro_rules | `(tactic| walk_at "KCfEl") => `(tactic| ((refine kcf_el ?kce (by with_unfolding_all rfl) (by with_unfolding_all rfl)); (case kce => (unfold blk; split <;> omega))))
local macro_rules | `(tactic| walk_at "call ref") => `(tactic| (k_here; k_dflt (refine' Claim.use (unquoted _ _ _ _ _ _ _) ?k1 ?k2 ?k3 ?k4 ?k5 ?kK ?kp ?kd ?ku ?_; (case k1 => k_asm); (case k2 => k_asm); (case k3 => k_asm); (case k4 => k_asm); (case k5 => k_asm); (case kK => first | exact rfl | assumption); (case kp => ((simp only [byteArr_size, List.length_map, KBw.ints_length]); omega)); (case kd => ktr_room); (case ku => ktr_units)); intro t9 h9 tk9 F9 N9; (try dsimp only); (try k_fold)))

theorem word_q_decoded (w : World) (loose : List Str) (mean : ExcName → Option Value) (mg mb : Str → Option Value) (b : Array UInt8) (tb : Tok) :
    Claim w loose mean mg mb 54 4 (b.size ≤ 1000000) [.bytes b tb] (fun t => .bytes (byteArr (unq ((KBw.bInts b).map blk))) t) := by
  unfold Claim; k_fill
  intro dp un gd cn cs a ccd cl outer A₀ base h₀ L m news s Q E B F X N T hk hbs hd hu hret
  have hlen := KBw.ints_length b
  refine wpAny_call ?_
  w_top off
  k_dflt cell_enter
  k_steps
  all_goals (
    refine' cb_retY hret ?e1 ?e2 ?e3
    (case e2 => assumption)
    (case e3 => first | assumption | (refine' cb_drop ?cbN ?cbS; (case cbN => assumption); (case cbS => kcj_all)))
    (case e1 => rw [KBa.ints_make (blk_in (bInts_in b))]))
end Mine

-- F4
namespace Mine

def hexl : List UInt8 := [48, 49, 50, 51, 52, 53, 54, 55, 56, 57, 65, 66, 67, 68, 69, 70]
def hexd (n : Nat) : Int := ((hexl.getD n 0).toNat : Int)
theorem in3 (x y : UInt8) : KBa.In [61, (x.toNat : Int), (y.toNat : Int)] := by
  intro n hn
  have hx := x.toNat_lt
  have hy := y.toNat_lt
  simp only [List.mem_cons, List.not_mem_nil, or_false] at hn
  rcases hn with rfl | rfl | rfl <;> omega
def qcode (c : Int) : List Int := [61, hexd (c.fdiv 16).toNat, hexd (c.fmod 16).toNat]

local macro_rules | `(tactic| walk_at "call type:bytes") => `(tactic| (k_here; (with_reducible show wpAny _ _ (call (Value.type "bytes") [Value.ref _]) _ _ _); k_dflt (refine' KBa.make_K ?kbaF ?kbaN ?kbah ?kbal ?kbai ?kbar ?kban ?_; (case kbaF => k_asm); (case kbaN => k_asm); (case kbah => rfl); (case kbal => kba_isList); (case kbai => (repeat constructor)); (case kbar => exact in3 _ _); (case kban => exact Nat.le_of_ble_eq_true rfl)); intro _ _ _ F' N' kbaIn))

theorem quoted_code (w : World) (loose : List Str) (mean : ExcName → Option Value) (mg mb : Str → Option Value) (c : Int) (tc : Tok) :
    Claim w loose mean mg mb 21 1 (0 ≤ c ∧ c < 256) [.int c tc] (fun t => .bytes (byteArr (qcode c)) t) := by
  unfold Claim; k_fill
  intro dp un gd cn cs a ccd cl outer A₀ base h₀ L m news s Q E B F X N T hk hc hd hu hret
  obtain ⟨hc0, hc1⟩ := hc
  refine wpAny_call ?_
  w_top off
  k_dflt cell_enter
  k_steps
  all_goals (
    refine' cb_retY hret ?e1 ?e2 ?e3
    (case e2 => assumption)
    (case e3 => first | assumption | (refine' cb_drop ?cbN ?cbS; (case cbN => assumption); (case cbS => kcj_all)))
    (case e1 => rfl))
end Mine

-- BR
namespace Mine
open Builtin

theorem gives_bytes_contains (b : Array UInt8) (i : Int) (t u : Tok) (h0 : 0 ≤ i) (h1 : i < 256) : Gives («bytes.__contains__» ⟨[.bytes b t, .int i u], []⟩) (.val (.bool (b.contains i.toNat.toUInt8))) := by
  refine .of_wp fun M A E s Q hq => ?_
  show wpAny M A (Bytes.containsIn "bytes.__contains__" (.bytes b t) (.int i u) >>= fun r => _) _ E s
  refine wpAny_bind ?_
  unfold Bytes.containsIn
  refine wpAny_bind (wpAny_attempt (wpAny_of_eq (rfl : asIndex (.int i u) = pure i) ?_))
  refine wpAny_bind (wpAny_of_eq KBy.buffer_eq ?_)
  show wpAny M A (if (decide (i < 0) || decide (i ≥ 256)) = true then _ else _) _ E s
  rw [if_neg (by simp only [Bool.or_eq_true, decide_eq_true_eq]; omega)]
  exact wpAny_pure (wpAny_pure ⟨_, rfl, hq⟩)
theorem in_bytes {prog : Program} {w : World} {A : Around} {E : Value → Shared → Prop} {s : Shared} {b : Array UInt8} {t u : Tok} {i : Int} {Q : Value → Shared → Prop} (h0 : 0 ≤ i) (h1 : i < 256) (h : Q (.bool (b.contains i.toNat.toUInt8)) s) :
    wpAny (model prog w) A (compareOp .In (.int i u) (.bytes b t)) Q E s :=
  in_gives (typeIs_bytes s b t) FB.slot_bytes_contains FB.entry_bytes_contains (FB.args_bytes_contains_2 _ _) (gives_bytes_contains b i t u h0 h1) h

-- bytes.join
theorem slot_join : Slot "bytes" "join" "bytes.join" :=
  .of (owner := "bytes") (n := "join") (by rw [typeLookup_type, builtinLookup_eq_fast]; kernel_rfl) (by decide +kernel) (by decide +kernel) (by decide +kernel)
    (by first | exact .inl (by decide +kernel) | exact .inr (by decide +kernel)) (by rw [isSubtype_type]; kernel_rfl)
theorem type_join : typeOf (.builtin "bytes.join") = pure (.type "method_descriptor") := by show builtinType _ = _; rw [builtinType_eq_fast]; kernel_rfl
theorem entry_join : entryFor table "bytes.join" = some Builtin.«bytes.join» := entryFor_of_tree (by kernel_rfl)
theorem args_join (a b : Value) : argsOk "bytes.join" ⟨[a, b], []⟩ := by
  unfold argsOk; rw [signature?_of (id := "bytes.join") (n := ['n', 'i', 'o', 'j']) (o := ['s', 'e', 't', 'y', 'b']) (by kernel_rfl) FB.owner_bytes]; kernel_rfl

inductive BytesAre : List Value → List (Array UInt8) → Prop
  | nil : BytesAre [] []
  | cons (b : Array UInt8) (t : Tok) {vs bs} : BytesAre vs bs → BytesAre (.bytes b t :: vs) (b :: bs)
theorem BytesAre.append {vs ws : List Value} {bs cs : List (Array UInt8)} (h : BytesAre vs bs) (k : BytesAre ws cs) : BytesAre (vs ++ ws) (bs ++ cs) := by
  induction h with
  | nil => exact k
  | cons b t _ ih => exact .cons b t ih
theorem BytesAre.length {vs : List Value} {bs : List (Array UInt8)} (h : BytesAre vs bs) : vs.length = bs.length := by
  induction h with
  | nil => rfl
  | cons b t _ ih => simp [ih]
theorem BytesAre.at {vs : List Value} {bs : List (Array UInt8)} (h : BytesAre vs bs) : ∀ (i : Nat), i < bs.length → ∃ b t, vs[i]? = some (.bytes b t) ∧ bs[i]? = some b := by
  induction h with
  | nil => intro i hi; exact absurd hi (Nat.not_lt_zero _)
  | cons b t _ ih =>
    intro i hi
    cases i with
    | zero => exact ⟨b, t, rfl, rfl⟩
    | succ i => exact ih i (Nat.lt_of_succ_lt_succ hi)

def catB (bs : List (Array UInt8)) : Array UInt8 := bs.foldl (· ++ ·) #[]

theorem buffer_eq {id : String} {b : Array UInt8} {t : Tok} {full : Bool} : Bytes.buffer? id (.bytes b t) full = pure (some b) := by
  unfold Bytes.buffer?
  rw [KBy.special_eq KBy.look_buffer, KBy.own_buffer, KBy.own_release]
  kernel_rfl
theorem take_eq {id : String} {b : Array UInt8} {t : Tok} : Bytes.takeBufferQuiet? id (.bytes b t) 0 = pure (some (b, none)) := by
  unfold Bytes.takeBufferQuiet? Bytes.takeBuffer?
  rw [KBy.special_eq KBy.look_buffer, KBy.own_buffer]
  simp only [pure_bind, buffer_eq]
  kernel_rfl

theorem KBr.ifF {α : Type} {M : Model} {A : Around} {E : Value → Shared → Prop} {s : Shared} {c : Prop} [Decidable c] {a b : Sem α} {Q : α → Shared → Prop} (hc : ¬ c) (h : wpAny M A b Q E s) : wpAny M A (if c then a else b) Q E s := by
  rw [if_neg hc]
  exact h
theorem not_onHeap {vs : List Value} {bs : List (Array UInt8)} (h : BytesAre vs bs) (i : Nat) : (((vs.take i).map fun v => (v, (none : Option Value))).any fun x => x.1.onHeap) = false := by
  induction h generalizing i with
  | nil => simp
  | cons b t _ ih =>
    cases i with
    | zero => rfl
    | succ i => simp only [List.take_succ_cons, List.map_cons, List.any_cons]; rw [ih i]; rfl
theorem letGo_all {M : Model} {A : Around} {E : Value → Shared → Prop} {s : Shared} {Q : Unit → Shared → Prop} {keep : List Value} : ∀ (vs : List Value), Q () s → wpAny M A (Bytes.joinLetGo (vs.map fun v => (v, (none : Option Value))) keep) Q E s
  | [], h => wpAny_pure h
  | v :: vs, h => by
    show wpAny M A (letGo (v :: []) _ >>= fun _ => Bytes.joinLetGo (vs.map fun v => (v, (none : Option Value))) keep) Q E s
    exact wpAny_bind (wpAny_letGo (letGo_all vs h))
theorem sum_sizes (bs : List (Array UInt8)) : Array.foldl (fun x1 x2 => x1 + x2.size) 0 bs.toArray = (bs.map (·.size)).sum := by
  rw [List.foldl_toArray']
  · have : ∀ (bs : List (Array UInt8)) (a : Nat), bs.foldl (fun x1 x2 => x1 + x2.size) a = a + (bs.map (·.size)).sum := by
      intro bs
      induction bs with
      | nil => intro a; simp
      | cons b r ih => intro a; simp only [List.foldl_cons, List.map_cons, List.sum_cons]; rw [ih]; omega
    rw [this]; omega
  · simp
theorem joined_eq (bs : List (Array UInt8)) : Bytes.joined #[] bs = catB bs := by
  unfold Bytes.joined catB
  have : ∀ (bs : List (Array UInt8)) (i : Nat) (a : Array UInt8), (bs.zipIdx i).foldl (fun out (x : Array UInt8 × Nat) => (if x.2 > 0 then out ++ #[] else out) ++ x.1) a = bs.foldl (· ++ ·) a := by
    intro bs
    induction bs with
    | nil => intro i a; rfl
    | cons b r ih =>
      intro i a
      rw [List.zipIdx_cons, List.foldl_cons, List.foldl_cons, ih]
      congr 1
      split <;> simp
  exact this bs 0 #[]

theorem catB_app : ∀ (bs : List (Array UInt8)) (a : Array UInt8), bs.foldl (· ++ ·) a = a ++ catB bs := by
  intro bs
  induction bs with
  | nil => intro a; simp [catB]
  | cons b r ih =>
    intro a
    show r.foldl (· ++ ·) (a ++ b) = a ++ r.foldl (· ++ ·) (#[] ++ b)
    rw [ih, ih, Array.empty_append, Array.append_assoc]
theorem catB_cons (b : Array UInt8) (r : List (Array UInt8)) : catB (b :: r) = b ++ catB r := by
  show r.foldl (· ++ ·) (#[] ++ b) = _
  rw [catB_app, Array.empty_append]
theorem catB_size : ∀ bs : List (Array UInt8), (catB bs).size = (bs.map (·.size)).sum
  | [] => rfl
  | b :: r => by rw [catB_cons, Array.size_append, catB_size r]; rfl
theorem catB_ints : ∀ bs : List (Array UInt8), KBw.bInts (catB bs) = (bs.map KBw.bInts).flatten
  | [] => rfl
  | b :: r => by rw [catB_cons, KBw.ints_app rfl (catB_ints r)]; rfl
theorem join_forIn {M : Model} {A : Around} {E : Value → Shared → Prop} {s : Shared} {vs : List Value} {bs : List (Array UInt8)} (hB : BytesAre vs bs)
    {f : Nat → Array (Array UInt8) × List (Value × Option Value) → Sem (ForInStep (Array (Array UInt8) × List (Value × Option Value)))} {Q : Array (Array UInt8) × List (Value × Option Value) → Shared → Prop}
    (hf : ∀ i b t, vs.toArray.getD i .none = .bytes b t → ∀ R : ForInStep (Array (Array UInt8) × List (Value × Option Value)) → Shared → Prop, R (.yield ((bs.take i).toArray.push b, ((vs.take i).map fun v => (v, none)) ++ [(.bytes b t, none)])) s → wpAny M A (f i ((bs.take i).toArray, (vs.take i).map fun v => (v, none))) R E s)
    (h : Q (bs.toArray, vs.map fun v => (v, none)) s) : wpAny M A (forIn [:vs.toArray.size] (#[], []) f) Q E s := by
  rw [Std.Legacy.Range.forIn_eq_forIn_range']
  have hn : vs.length = bs.length := hB.length
  refine wpAny_forIn_list (I := fun rest c s' => ∃ i, i ≤ bs.length ∧ rest = List.range' i (bs.length - i) ∧ c = ((bs.take i).toArray, (vs.take i).map fun v => (v, none)) ∧ s' = s) _ _ ?_ ?_ _ _ ⟨0, Nat.zero_le _, ?_, ?_, rfl⟩
  · rintro x rest c s' ⟨i, hi, hrest, rfl, rfl⟩
    have hlt : i < bs.length := by
      rcases Nat.lt_or_ge i bs.length with h | h
      · exact h
      · rw [Nat.sub_eq_zero_of_le h] at hrest; simp at hrest
    obtain ⟨k, hk⟩ : ∃ k, bs.length - i = k + 1 := ⟨bs.length - i - 1, by omega⟩
    rw [hk, List.range'_succ] at hrest
    injection hrest with e1 e2
    subst e1 e2
    obtain ⟨b, t, hv, hb⟩ := hB.at x hlt
    refine hf x b t (by simp [Array.getD_eq_getD_getElem?, hv]) _ ⟨x + 1, hlt, by rw [show bs.length - (x + 1) = k by omega], ?_, rfl⟩
    rw [List.take_add_one, List.take_add_one, hv, hb]
    simp
  · rintro c s' ⟨i, hi, hrest, rfl, rfl⟩
    have e : i = bs.length := by
      rcases Nat.lt_or_ge i bs.length with h | h
      · obtain ⟨k, hk⟩ : ∃ k, bs.length - i = k + 1 := ⟨bs.length - i - 1, by omega⟩
        rw [hk, List.range'_succ] at hrest
        cases hrest
      · omega
    subst e
    rw [List.take_length, ← hn, List.take_length]
    exact h
  · simp [Std.Legacy.Range.size, hn]
  · simp

theorem meets_join (a : Addr) (t : Tok) :
    Meets («bytes.join» ⟨[.bytes #[] t, .ref a], []⟩) (fun _ R s => ∃ vs bs, s.heap.IsList a vs.toArray ∧ BytesAre vs bs ∧ (bs.map (·.size)).sum ≤ sizeLine ∧ ∀ t' k, R (.ok (.ret (.bytes (catB bs) t'))) { s with toks := k }) := by
  refine .of_wp fun prog w A R s hS => ?_
  obtain ⟨vs, bs, hl, hB, hz, hR⟩ := hS
  have hT : s.TypeIs (.ref a) "list" := hl.typeIs
  obtain ⟨o, ho, hc, n, hd⟩ := id hl
  show wpAny _ _ (Bytes.joinItems (.ref a) >>= fun seq => _) _ _ s
  refine wpAny_bind ?_
  unfold Bytes.joinItems
  refine wpAny_bind (wpAny_typeOf hT ?_)
  refine wpAny_pure ?_
  refine wpAny_bind (wpAny_seqItems ho hd ?_)
  have hsz : (catB bs).size ≤ sizeLine := by rw [catB_size]; exact hz
  rcases vs with _ | ⟨v, _ | ⟨v2, r⟩⟩
  rotate_left
  · cases hB with
    | cons b t2 hr =>
      cases hr
      show wpAny _ _ (typeOf (.bytes b t2) >>= fun _ => _) _ _ s
      refine wpAny_bind (wpAny_typeOf (typeIs_bytes s b t2) ?_)
      refine wpAny_bind (wpAny_rule (wpAny_pure ⟨.bytes b t2, rfl, ?_⟩))
      have := hR t2 s.toks
      have e : catB [b] = b := by simp [catB]
      rw [e] at this
      exact this
  all_goals
    refine wpAny_bind (join_forIn hB ?_ ?_)
    · intro i b t' hv R' hR'
      refine wpAny_bind (wpAny_seqItems ho hd ?_)
      dsimp only
      rw [not_onHeap hB i, hv]
      refine KFB.if_not rfl ?_
      refine wpAny_bind (wpAny_holding (wpAny_of_eq take_eq ?_))
      dsimp only
      refine wpAny_bind (wpAny_seqItems ho hd ?_)
      dsimp only
      refine KFB.if_not (by simp) ?_
      exact wpAny_pure hR'
    · dsimp only
      refine wpAny_bind (wpAny_of_eq (rfl : Bytes.payload (.bytes #[] t) = pure #[]) ?_)
      have e0 : (#[] : Array UInt8).size * (bs.toArray.size - 1) = 0 := by simp
      rw [e0, sum_sizes]
      refine KFB.if_not (by unfold Bytes.tooLong; exact decide_eq_false (Nat.not_lt.mpr hz)) ?_
      have e1 : Bytes.joined #[] bs.toArray.toList = catB bs := joined_eq bs
      rw [e1]
      refine wpAny_bind (wpAny_mkBytes ?_ hsz)
      refine wpAny_bind (wpAny_holding (wpAny_point ?_))
      refine wpAny_bind (letGo_all _ ?_)
      exact wpAny_pure ⟨_, rfl, hR _ _⟩

theorem method_join {M : Model} {A : Around} {E : Value → Shared → Prop} {s : Shared} {b : Array UInt8} {t : Tok} {pl : Sem Bool} {Q : Value × List Value → Shared → Prop} (h : Q (.builtin "bytes.join", [.bytes b t]) s) : wpAny M A (getMethod (.bytes b t) "join" pl) Q E s := by
  with_reducible exact KBd.method_of (.bytes b t) (typeIs_bytes _ _ _) slot_join type_join KBd.noRef h
theorem call_join {prog : Program} {w : World} {A : Around} {E : Value → Shared → Prop} {s : Shared} {a : Addr} {t : Tok} {vs : List Value} {bs : List (Array UInt8)} {Q : Value → Shared → Prop} (hl : s.heap.IsList a vs.toArray) (hB : BytesAre vs bs) (hz : (bs.map (·.size)).sum ≤ 16777216)
    (h : ∀ t' k, Q (.bytes (catB bs) t') { s with toks := k }) : wpAny (model prog w) A (call (.builtin "bytes.join") [.bytes #[] t, .ref a]) Q E s :=
  call_meets slot_join (typeIs_bytes _ _ _) entry_join (args_join _ _) (meets_join a t) ⟨vs, bs, hl, hB, by rw [sizeLine_eq]; exact hz, h⟩
end Mine

-- BE
namespace Mine
open Builtin

def asciiA (x : Str) : Array UInt8 := (x.cps.toList.map fun c => c.toUInt8).toArray
theorem asciiA_size (x : Str) : (asciiA x).size = x.length := by unfold asciiA; simp; rfl

theorem road_ascii (id : String) (self : Value) (x : Str) (errors : Option Str) : _codecs.encodeRoad id self x (Str.ofString "ascii") errors = (do mkBytes (← _codecs.encodeNarrow id _codecs.asciiCodec errors self x)) := by
  kernel_rfl
theorem encode_eq (x : Str) (t u : Tok) : «str.encode» ⟨[.str x t, .str (Str.ofString "ascii") u], []⟩ = (do ret (← _codecs.encodeRoad "str.encode" (.str x t) x (Str.ofString "ascii") none)) := by
  kernel_rfl
theorem narrow {M : Model} {A : Around} {E : Value → Shared → Prop} {s : Shared} {self : Value} {x : Str} {Q : Array UInt8 → Shared → Prop} (hx : ∀ c ∈ x.cps.toList, c < 128) (hz : x.length ≤ sizeLine) (h : Q (asciiA x) s) :
    wpAny M A (_codecs.encodeNarrow "str.encode" _codecs.asciiCodec none self x) Q E s := by
  unfold _codecs.encodeNarrow
  have hbad : ∀ c ∈ x.cps, _codecs.asciiCodec.bad c = false := by
    intro c hc
    have := hx c (by simpa using hc)
    show decide (c ≥ 128) = false
    exact decide_eq_false (by omega)
  have hfind : x.cps.findIdx? _codecs.asciiCodec.bad = none := by
    rw [Array.findIdx?_eq_none_iff]
    exact hbad
  have hfold : x.cps.foldl (fun acc y => acc ++ (_codecs.asciiCodec.bytesOf y).toArray) #[] = asciiA x := by
    have : ∀ (l : List Nat) (a : Array UInt8), l.foldl (fun acc y => acc ++ (_codecs.asciiCodec.bytesOf y).toArray) a = a ++ (l.map fun c => c.toUInt8).toArray := by
      intro l
      induction l with
      | nil => intro a; simp
      | cons c r ih =>
        intro a
        rw [List.foldl_cons, ih]
        show (a ++ #[c.toUInt8]) ++ _ = _
        rw [Array.append_assoc]
        congr 1
        simp
    rw [← Array.foldl_toList, this]
    simp [asciiA]
  refine wpAny_bind ?_
  rw [Std.Legacy.Range.forIn_eq_forIn_range']
  refine wpAny_forIn_list (I := fun rest c s' => s' = s ∧ ((c = (0, #[], {}) ∧ rest = List.range' 0 x.length) ∨ (c = (x.length, asciiA x, {})))) _ _ ?_ ?_ _ _ ⟨rfl, .inl ⟨rfl, by simp [Std.Legacy.Range.size]⟩⟩
  · rintro k rest c s' ⟨rfl, h1 | h1⟩
    · obtain ⟨rfl, hr⟩ := h1
      have hlt : 0 < x.cps.size := by
        rcases Nat.eq_zero_or_pos x.cps.size with e | e
        · have : x.length = 0 := e
          rw [this] at hr; cases hr
        · exact e
      dsimp only
      refine KBr.ifF (by simp) ?_
      have e0 : x.cps[0]? = some x.cps[0] := Array.getElem?_eq_getElem hlt
      rw [e0]
      dsimp only
      refine KFB.if_so (by rw [hbad _ (Array.getElem_mem hlt)]; rfl) ?_
      have e1 : x.cps.extract 0 x.cps.size = x.cps := by simp
      rw [e1, hfind]
      refine wpAny_pure ⟨rfl, .inr ?_⟩
      simp only [Option.getD_none, e1, hfold, Nat.zero_add]
      rfl
    · subst h1
      dsimp only
      refine KBr.ifF (by show ¬ (asciiA x).size > sizeLine; rw [asciiA_size]; exact Nat.not_lt.mpr hz) ?_
      have e0 : x.cps[x.length]? = none := Array.getElem?_eq_none (Nat.le_refl _)
      rw [e0]
      dsimp only
      refine wpAny_pure ?_
      exact wpAny_pure h
  · rintro c s' ⟨rfl, h1 | h1⟩
    · obtain ⟨rfl, hr⟩ := h1
      have hlt : x.cps.size = 0 := by
        have : x.length = 0 := by
          have := congrArg List.length hr
          simpa using this.symm
        exact this
      have e : x.cps = #[] := Array.eq_empty_of_size_eq_zero hlt
      have : asciiA x = #[] := by unfold asciiA; rw [e]; rfl
      rw [this] at h
      exact wpAny_pure h
    · subst h1
      exact wpAny_pure h
theorem meets_encode (x : Str) (t u : Tok) (hx : ∀ c ∈ x.cps.toList, c < 128) (hz : x.length ≤ sizeLine) :
    Meets («str.encode» ⟨[.str x t, .str (Str.ofString "ascii") u], []⟩) (fun _ R s => R (.ok (.ret (.bytes (asciiA x) s.toks))) { s with toks := s.toks + 1 }) := by
  refine .of_wp fun prog w A R s hS => ?_
  rw [encode_eq, road_ascii]
  refine wpAny_bind (wpAny_bind (narrow hx hz ?_))
  exact wpAny_mkBytes (wpAny_pure ⟨_, rfl, hS⟩) (by rw [asciiA_size]; exact hz)
theorem method_encode {M : Model} {A : Around} {E : Value → Shared → Prop} {s : Shared} {x : Str} {t : Tok} {pl : Sem Bool} {Q : Value × List Value → Shared → Prop} (h : Q (.builtin "str.encode", [.str x t]) s) : wpAny M A (getMethod (.str x t) "encode" pl) Q E s := by
  with_reducible exact GM.of (.str x t) (typeIs_str _ _ _) F.slot_str_encode F.type_str_encode GM.noRef h
theorem call_encode {prog : Program} {w : World} {A : Around} {E : Value → Shared → Prop} {s : Shared} {x : Str} {t u : Tok} {Q : Value → Shared → Prop} (hx : ∀ c ∈ x.cps.toList, c < 128) (hz : x.length ≤ 16777216)
    (h : ∀ t' k, Q (.bytes (asciiA x) t') { s with toks := k }) : wpAny (model prog w) A (call (.builtin "str.encode") [.str x t, .str (Str.ofString "ascii") u]) Q E s :=
  call_meets F.slot_str_encode (typeIs_str _ _ _) F.entry_str_encode (F.args_str_encode_2 _ _) (meets_encode x t u hx (by rw [sizeLine_eq]; exact hz)) (h _ _)
end Mine

-- F5
namespace Mine

def signs : List UInt8 := [65, 66, 67, 68, 69, 70, 71, 72, 73, 74, 75, 76, 77, 78, 79, 80, 81, 82, 83, 84, 85, 86, 87, 88, 89, 90, 97, 98, 99, 100, 101, 102, 103, 104, 105, 106, 107, 108, 109, 110, 111, 112, 113, 114, 115, 116, 117, 118, 119, 120, 121, 122, 48, 49, 50, 51, 52, 53, 54, 55, 56, 57, 33, 42, 43, 45, 47]
def isSign (c : Int) : Bool := signs.toArray.contains c.toNat.toUInt8
def encA (c : Int) : Array UInt8 := if c = 32 then byteArr [95] else if isSign c = true then byteArr [c] else byteArr (qcode c)

theorem encA_blank {c : Int} (h : c = 32) : encA c = byteArr [95] := if_pos h
theorem encA_sign {c : Int} (h : c ≠ 32) (k : isSign c = true) : encA c = byteArr [c] := by unfold encA; rw [if_neg h, if_pos k]
theorem encA_code {c : Int} (h : c ≠ 32) (k : isSign c = false) : encA c = byteArr (qcode c) := by unfold encA; rw [if_neg h, if_neg (by rw [k]; exact Bool.false_ne_true)]

theorem encA_size (c : Int) : (encA c).size ≤ 3 := by
  unfold encA
  repeat' split
  all_goals (rw [byteArr_size]; simp [qcode])
theorem enc_sum (ks : List Int) : ((ks.map encA).map (·.size)).sum ≤ 3 * ks.length := by
  induction ks with
  | nil => simp
  | cons k r ih =>
    have := encA_size k
    simp only [List.map_cons, List.sum_cons, List.length_cons]
    omega
theorem in1 {c : Int} (h0 : 0 ≤ c) (h1 : c < 256) : KBa.In [c] := by
  intro n hn
  rw [List.mem_singleton.mp hn]
  exact ⟨h0, h1⟩
def GrowEnd (h₀ : Heap) (L l : Addr) (rest : List (Addr × Obj)) (m₀ : Str → Option Value) (x : Str) (bs : List (Array UInt8)) (s s₂ : Shared) : Prop :=
  ∃ h' tk m' news' vs' n', s₂ = { s with heap := h', toks := tk } ∧ Fr h₀ L h' m' ∧ News h₀ L h' news' ∧ (l, listOf vs'.toArray n') ∈ news' ∧ (∀ p ∈ rest, p ∈ news') ∧ (∀ z, z ≠ x → m' z = m₀ z) ∧ BytesAre vs' bs
def GrowPost (h₀ : Heap) (L l : Addr) (rest : List (Addr × Obj)) (m₀ : Str → Option Value) (x : Str) (bs : List (Array UInt8)) (s : Shared) (Q : Flow → Shared → Prop) (f : Flow) (s₂ : Shared) : Prop :=
  match f with
  | .ret v => Q (.ret v) s₂
  | .brk => Q .next s₂
  | _ => GrowEnd h₀ L l rest m₀ x bs s s₂
theorem grow_end {h₀ : Heap} {L l : Addr} {rest rest' : List (Addr × Obj)} {m₀ m' : Str → Option Value} {x : Str} {bs : List (Array UInt8)} {b b' : Array UInt8} {s : Shared} {h' : Heap} {tk : Nat} {vs : List Value} {t : Tok} {n' : Nat}
    (F : Fr h₀ L h' m') (N : News h₀ L h' rest') (hm : (l, listOf (vs.toArray.push (.bytes b t)) n') ∈ rest') (hr : ∀ p ∈ rest, p ∈ rest') (hz : ∀ z, z ≠ x → m' z = m₀ z) (hv : BytesAre vs bs) (e : b = b') :
    GrowEnd h₀ L l rest m₀ x (bs ++ [b']) s { s with heap := h', toks := tk } :=
  ⟨h', tk, m', rest', vs ++ [.bytes b t], n', rfl, F, N, by simpa only [List.push_toArray] using hm, hr, hz, by rw [← e]; exact hv.append (.cons b t .nil)⟩

section
variable {prog : Program} {w : World} {A : Around} {E : Value → Shared → Prop} {s : Shared} {env : Env} {h₀ : Heap} {x : PySem.Str} {body : List Stmt} {Q : Flow → Shared → Prop}
theorem enc_loop {b : Array UInt8} {tb : Tok} {m₀ : PySem.Str → Option Value} {l : Addr} {news : List (Addr × Obj)}
    (hh : A.handled = none) (F : Fr h₀ env.locals s.heap m₀) (N : News h₀ env.locals s.heap ((l, listOf #[] 0) :: news)) (hlt : ∀ p ∈ news, p.1 < l)
    (turn : ∀ (vs : List Value) (n : Nat) (pre : List Int) (k : Int) t h tk rest, BytesAre vs (pre.map encA) → pre.length < b.size → vs.length < b.size → 0 ≤ k → k < 256 → OwnOff rest [l] → KstMark →
      Fr h₀ env.locals h (fun y => if y = x then some (.int k t) else m₀ y) → News h₀ env.locals h ((l, listOf vs.toArray n) :: rest) →
      wpAny (model prog w) A (execs body env) (GrowPost h₀ env.locals l rest m₀ x (pre.map encA ++ [encA k]) { s with heap := h, toks := tk } Q) E { s with heap := h, toks := tk })
    (done : ∀ (vs : List Value) (n : Nat) (u : PySem.Str → Option Value) h tk, BytesAre vs ((KBw.bInts b).map encA) → vs.length = b.size → Fr h₀ env.locals h (fun y => if y = x then u y else m₀ y) → News h₀ env.locals h ((l, listOf vs.toArray n) :: news) → Q .next { s with heap := h, toks := tk }) :
    wpAny (model prog w) A (pyIter (.bytes b tb)) (fun it s₂ => LoopAtV prog w A h₀ env x body Q E it s₂) E s := by
  refine KStb.kst_bytes (σ := List Value × Nat) (fun c => (l, listOf c.1.toArray c.2) :: news) (fun _ => []) (fun _ => True) [] (fun pre c => BytesAre c.1 (pre.map encA)) ([], 0) rfl (KBw.ints_length b) hh F N trivial (fun _ h => nomatch h) .nil ?_ ?_
  · rintro ⟨vs, n⟩ pre post k t u h tk own hks hlen h0 h1 hoff _ hP F' N'
    have hvl := hP.length
    have hoff2 : OwnOff (news ++ own) [l] := by
      intro p hp q hq
      rw [List.mem_singleton.mp hq]
      rcases List.mem_append.mp hp with hp | hp
      · exact Nat.ne_of_lt (hlt p hp)
      · exact hoff p hp l List.mem_cons_self
    refine wpAny_mono (turn vs n pre k t h tk (news ++ own) hP hlen (by rw [hvl, List.length_map]; exact hlen) h0 h1 hoff2 kstMark F' N') (fun f s₂ q => ?_) fun _ _ e => e
    have up : GrowEnd h₀ env.locals l (news ++ own) m₀ x (pre.map encA ++ [encA k]) { s with heap := h, toks := tk } s₂ →
        InvEndN h₀ env.locals (KstS (fun c : List Value × Nat => (l, listOf c.1.toArray c.2) :: news) (fun _ => []) (fun _ => True) x [] m₀ (fun pre c => BytesAre c.1 (pre.map encA)) (pre ++ [k])) own (List.map (·.1) ((l, listOf ([] : List Value).toArray 0) :: news)) { s with heap := h, toks := tk } s₂ := by
      rintro ⟨h', tk', m', news', vs', n', rfl, F9, N9, hm, hr, hz, hv⟩
      refine InvEndN.intro F9 N9 (nx := (l, listOf vs'.toArray n') :: news) ?_ rfl ?_ ?_
      · exact ⟨(vs', n'), rfl, trivial, (fun _ h => nomatch h), (fun z h1 _ _ => hz z h1), by show BytesAre vs' ((pre ++ [k]).map encA); rw [List.map_append]; exact hv⟩
      · intro p hp
        rcases List.mem_cons.mp hp with rfl | hp
        · exact hm
        · exact hr p (List.mem_append.mpr (.inl hp))
      · exact fun p hp => hr p (List.mem_append.mpr (.inr hp))
    cases f with
    | ret v => exact q
    | brk => exact q
    | next => exact up q
    | cont => exact up q
  · rintro ⟨vs, n⟩ u h tk hlen _ hP F' N'
    exact done vs n u h tk hP (by rw [hP.length, List.length_map]; exact hlen) F' N'
end

local macro_rules | `(tactic| walk_at "pyIter bytes") => `(tactic| (k_here; (rename Fr _ _ _ _ => lF'); (rename News _ _ _ _ => lN'); (with_unfolding_all refine' enc_loop ?h lF' lN' ?l ?t ?d); (case h => rfl); (case l => k_asm); clear lF' lN'; (case' t => (intro vs n pre k t h tk rest hB hpl hvl hk0 hk1 hoff hmk F9 N9; (try k_fold))); (case' d => (intro vs n u h tk hB hvl F9 N9; (try k_fold)))))
local macro_rules | `(tactic| walk_at "GrowPost") => `(tactic| (dsimp only [GrowPost]))
local macro_rules | `(tactic| walk_at "call ref") => `(tactic| (k_here; k_dflt (refine' Claim.use (quoted_code _ _ _ _ _ _ _) ?k1 ?k2 ?k3 ?k4 ?k5 ?kK ?kp ?kd ?ku ?_; (case k1 => k_asm); (case k2 => k_asm); (case k3 => k_asm); (case k4 => k_asm); (case k5 => k_asm); (case kK => first | exact rfl | assumption); (case kp => (refine ⟨?_, ?_⟩ <;> omega)); (case kd => ktr_room); (case ku => ktr_units)); intro t9 h9 tk9 F9 N9; (try dsimp only); (try k_fold)))
local macro_rules | `(tactic| walk_at "GrowEnd") => `(tactic| ((refine' grow_end ?F ?N ?m ?r ?z ?v ?e; (case F => assumption); (case N => assumption); (case m => k_mem); (case r => kcf_all); (case z => (intro z9 h8; simp [h8])); (case v => assumption); (case e => first | exact (encA_blank (by assumption)).symm | exact (encA_sign (by assumption) (by assumption)).symm | exact (encA_code (by assumption) (by assumption)).symm))))

local macro_rules | `(tactic| walk_at "getMethod bytes") => `(tactic| (k_here; (with_reducible refine method_join ?_)))
local macro_rules | `(tactic| walk_at "call builtin:bytes.join") => `(tactic| (k_here; k_dflt (refine' call_join ?l ?b ?z ?_; (case l => kba_isList); (case b => assumption); (case z => (refine Nat.le_trans (enc_sum _) ?_; (simp only [KBw.ints_length]); omega))); intro t9 k9))
local macro_rules | `(tactic| walk_at "compareOp In int bytes") => `(tactic| (k_here; (refine in_bytes (by omega) (by omega) ?_)))
local macro_rules | `(tactic| walk_at "call type:bytes") => `(tactic| (k_here; (with_reducible show wpAny _ _ (call (Value.type "bytes") [Value.ref _]) _ _ _); k_dflt (refine' KBa.make_K ?kbaF ?kbaN ?kbah ?kbal ?kbai ?kbar ?kban ?_; (case kbaF => k_asm); (case kbaN => k_asm); (case kbah => rfl); (case kbal => kba_isList); (case kbai => (repeat constructor)); (case kbar => (exact in1 (by omega) (by omega))); (case kban => exact Nat.le_of_ble_eq_true rfl)); intro _ _ _ F' N' kbaIn))
theorem word_q_encoded (w : World) (loose : List Str) (mean : ExcName → Option Value) (mg mb : Str → Option Value) (b : Array UInt8) (tb : Tok) :
    Claim w loose mean mg mb 49 2 (b.size ≤ 1000000) [.bytes b tb] (fun t => .bytes (catB ((KBw.bInts b).map encA)) t) := by
  unfold Claim; k_fill
  intro dp un gd cn cs a ccd cl outer A₀ base h₀ L m news s Q E B F X N T hk hbs hd hu hret
  have hlen := KBw.ints_length b
  refine wpAny_call ?_
  w_top off
  k_dflt cell_enter
  k_steps
  all_goals (
    refine' cb_retY hret ?e1 ?e2 ?e3
    (case e2 => assumption)
    (case e3 => first | assumption | (refine' cb_drop ?cbN ?cbS; (case cbN => assumption); (case cbS => kcj_all)))
    (case e1 => rfl))
end Mine

-- P1
namespace Mine

def signsN : List Nat := [65, 66, 67, 68, 69, 70, 71, 72, 73, 74, 75, 76, 77, 78, 79, 80, 81, 82, 83, 84, 85, 86, 87, 88, 89, 90, 97, 98, 99, 100, 101, 102, 103, 104, 105, 106, 107, 108, 109, 110, 111, 112, 113, 114, 115, 116, 117, 118, 119, 120, 121, 122, 48, 49, 50, 51, 52, 53, 54, 55, 56, 57, 33, 42, 43, 45, 47]
theorem contains_nat (l : List UInt8) (b : UInt8) : l.toArray.contains b = (l.map UInt8.toNat).contains b.toNat := by
  rw [List.contains_toArray]
  induction l with
  | nil => rfl
  | cons x r ih =>
    rw [List.contains_cons, List.map_cons, List.contains_cons, ih]
    congr 1
    by_cases h : b = x
    · subst h; simp
    · have : b.toNat ≠ x.toNat := fun e => h (UInt8.toNat_inj.mp e)
      rw [beq_eq_false_iff_ne.mpr h, beq_eq_false_iff_ne.mpr this]
theorem byte_nat {c : Int} (h0 : 0 ≤ c) (h1 : c < 256) : c.toNat.toUInt8.toNat = c.toNat := by
  show c.toNat % 256 = c.toNat
  omega
theorem isSign_nat {c : Int} (h0 : 0 ≤ c) (h1 : c < 256) : isSign c = signsN.contains c.toNat := by
  unfold isSign
  rw [contains_nat, byte_nat h0 h1]
  rfl
def encI (c : Int) : List Int := if c = 32 then [95] else if signsN.contains c.toNat = true then [c] else qcode c
theorem encA_eq {c : Int} (h0 : 0 ≤ c) (h1 : c < 256) : encA c = byteArr (encI c) := by
  unfold encA encI
  rw [isSign_nat h0 h1]
  repeat' split
  all_goals rfl
theorem qcode_in (c : Int) : KBa.In (qcode c) := in3 _ _
theorem encI_in {c : Int} (h0 : 0 ≤ c) (h1 : c < 256) : KBa.In (encI c) := by
  unfold encI
  repeat' split
  · exact in1 (by omega) (by omega)
  · exact in1 h0 h1
  · exact qcode_in c
theorem encA_ints {c : Int} (h0 : 0 ≤ c) (h1 : c < 256) : KBw.bInts (encA c) = encI c := by
  rw [encA_eq h0 h1, KBa.ints_make (encI_in h0 h1)]

def pieceS (c : Int) : Str := ⟨((encI c).map Int.toNat).toArray⟩
def oneS (c : Int) : Str := ⟨#[c.toNat]⟩
def hexS : Str := Str.ofString "0123456789ABCDEF"
def occE (c : Int) : Bool := (Builtin.Str.occurrences (Str.ofString "!*+-/") (oneS c) 0 (Str.ofString "!*+-/").length 1).isEmpty
def codeS (c : Int) : Str := Str.ofString "=" ++ Txt.item hexS (c.fdiv 16) ++ Txt.item hexS (c.fmod 16)
def pieceOk (c : Int) : Bool :=
  ((encI c).all fun k => decide (0 ≤ k) && decide (k < 128)) &&
  (if c = 32 then decide (pieceS c = Str.ofString "_")
  else if c < 128 then
    (if Txt.isalpha (oneS c) || Txt.isdigit (oneS c) || !occE c then decide (pieceS c = oneS c) else decide (pieceS c = codeS c))
  else decide (pieceS c = codeS c))
theorem piece_okN : ∀ n : Nat, n < 256 → pieceOk (n : Int) = true := by decide +kernel
theorem piece_ok {c : Int} (h0 : 0 ≤ c) (h1 : c < 256) : pieceOk c = true := by
  have := piece_okN c.toNat (by omega)
  rwa [show ((c.toNat : Nat) : Int) = c by omega] at this
theorem piece_low {c : Int} (h0 : 0 ≤ c) (h1 : c < 256) : ∀ k ∈ encI c, 0 ≤ k ∧ k < 128 := by
  have h := piece_ok h0 h1
  unfold pieceOk at h
  have h := (Bool.and_eq_true_iff.mp h).1
  intro k hk
  have := List.all_eq_true.mp h k hk
  simpa using this
theorem piece_blank {c : Int} (h : c = 32) : Str.ofString "_" = pieceS c := by subst h; decide +kernel
theorem piece_one {c : Int} (h0 : 0 ≤ c) (h1 : c < 256) (h2 : c ≠ 32) (h3 : c < 128) (h4 : Txt.isalpha (oneS c) = true ∨ Txt.isdigit (oneS c) = true ∨ occE c = false) : oneS c = pieceS c := by
  have h := (Bool.and_eq_true_iff.mp (piece_ok h0 h1)).2
  rw [if_neg h2, if_pos h3, if_pos (by rcases h4 with h | h | h <;> simp [h])] at h
  exact (of_decide_eq_true h).symm
theorem piece_code {c : Int} (h0 : 0 ≤ c) (h1 : c < 256) (h2 : c ≠ 32) (h4 : ¬ c < 128 ∨ (Txt.isalpha (oneS c) = false ∧ Txt.isdigit (oneS c) = false ∧ occE c = true)) : codeS c = pieceS c := by
  have h := (Bool.and_eq_true_iff.mp (piece_ok h0 h1)).2
  rw [if_neg h2] at h
  by_cases h3 : c < 128
  · rcases h4 with h4 | ⟨a, b, d⟩
    · exact absurd h3 h4
    · rw [if_pos h3, a, b, d] at h
      exact (of_decide_eq_true h).symm
  · rw [if_neg h3] at h
    exact (of_decide_eq_true h).symm
end Mine

-- F6
namespace Mine

theorem law_piece (w : World) (loose : List Str) (mean : ExcName → Option Value) (mg mb : Str → Option Value) (c : Int) (tc : Tok) :
    Claim w loose mean mg mb 68 1 (0 ≤ c ∧ c < 256) [.int c tc] (fun t => .str (pieceS c) t) := by
  unfold Claim; k_fill
  intro dp un gd cn cs a ccd cl outer A₀ base h₀ L m news s Q E B F X N T hk hc hd hu hret
  obtain ⟨hc0, hc1⟩ := hc
  refine wpAny_call ?_
  w_top off
  k_dflt cell_enter
  k_steps
  all_goals (
    refine' cb_retS hret ?e1 ?e2 ?e3
    (case e2 => assumption)
    (case e3 => first | assumption | (refine' cb_drop ?cbN ?cbS; (case cbN => assumption); (case cbS => kcj_all)))
    (case e1 => first
      | exact piece_blank (by assumption)
      | exact piece_one hc0 hc1 (by assumption) (by assumption) (.inl (by assumption))
      | exact piece_one hc0 hc1 (by assumption) (by assumption) (.inr (.inl (by assumption)))
      | exact piece_one hc0 hc1 (by assumption) (by assumption) (.inr (.inr (by assumption)))
      | exact piece_code hc0 hc1 (by assumption) (.inl (by assumption))
      | exact piece_code hc0 hc1 (by assumption) (.inr ⟨by assumption, by assumption, by assumption⟩)))
end Mine

-- F7
namespace Mine

abbrev penO (ca : Addr) (spot : Int) (t1 : Tok) (sm : Int) (t2 : Tok) : Obj := W.listOf #[.ref ca, .int spot t1, .int sm t2] 0

theorem law_draw (w : World) (loose : List Str) (mean : ExcName → Option Value) (mg mb : Str → Option Value) (p ca : Addr) (spot sm many : Int) (t1 t2 tm : Tok) (ys : List Value) (ns : List Int) (rest : List (Addr × Obj))
    (dp un : Nat) (gd : Option (List Code)) (cn : Str) (cs : Scope) (a : Addr) (ccd : Value) (cl : List (Str × Addr)) (outer : List Env) (A₀ : Around) (base h₀ : Heap) (L : Addr) (m : Str → Option Value) (s : Shared) (Q E : Value → Shared → Prop)
    (B : Below A₀ base outer h₀) (F : Fr h₀ L s.heap m) (X : (hd0346.heap_39 w.params).In h₀) (N : News h₀ L s.heap ((p, penO ca spot t1 sm t2) :: (ca, LCg.lst ys) :: rest)) (T : Top hd0346.view_39 loose mean mg mb h₀) (hk : cs.kind = .function)
    (hI : IntsAre ys ns) (hne : ca ≠ p) (hoff : OwnOff rest [p]) (hs0 : 0 ≤ spot) (hs1 : spot ≤ 1000) (hm : 0 < many) (hm1 : many ≤ 1000) (hl : ns.length ≤ 1000) (hd : dp + 1 < recursionLimit) (hu : un + 8 < cLine)
    (ret : ∀ v t t1' h' tk', 0 ≤ v → v < many → Fr h₀ L h' m → News h₀ L h' ((p, penO ca (spot + 1) t1' sm t2) :: (ca, LCg.lst ys) :: rest) → Q (.int v t) { s with heap := h', toks := tk' }) :
    wpAny (model PySem.Challenge.rw_no0346_01.row.prog w) (ktrTop dp un gd cn cs L a ccd cl outer) (call (.ref 61) [.ref p, .int many tm]) Q E s := by
  revert X; k_fill; intro X
  have kMk := kstMark
  have hyl := hI.length
  have hne' : @Ne Nat ca p := hne
  refine wpAny_call ?_
  w_top off
  k_dflt cell_enter
  k_steps
  all_goals exact ret _ _ _ _ _ (Int.fmod_nonneg_of_pos _ hm) (Int.fmod_lt_of_pos _ hm) (by assumption) (by assumption)

theorem draw_use {w : World} {loose : List Str} {mean : ExcName → Option Value} {mg mb : Str → Option Value} {p ca : Addr} {spot sm many : Int} {t1 t2 tm : Tok} {ys : List Value} {ns : List Int} {news : List (Addr × Obj)} {g : Obj → List (Addr × Obj)}
    {dp un : Nat} {gd : Option (List Code)} {cn : Str} {cs : Scope} {a : Addr} {ccd : Value} {cl : List (Str × Addr)} {outer : List Env} {A₀ : Around} {base h₀ : Heap} {L : Addr} {m : Str → Option Value} {s : Shared} {Q E : Value → Shared → Prop}
    (B : Below A₀ base outer h₀) (F : Fr h₀ L s.heap m) (X : (hd0346.heap_39 w.params).In h₀) (N : News h₀ L s.heap news) (T : Top hd0346.view_39 loose mean mg mb h₀) (hk : cs.kind = .function)
    (hU : UpdF p (penO ca spot t1 sm t2) news g) (hc : (ca, LCg.lst ys) ∈ news) (hI : IntsAre ys ns) (hs0 : 0 ≤ spot) (hs1 : spot ≤ 1000) (hm : 0 < many) (hm1 : many ≤ 1000) (hl : ns.length ≤ 1000) (hd : dp + 1 < recursionLimit) (hu : un + 8 < cLine)
    (ret : ∀ v t t1' h' tk', 0 ≤ v → v < many → Fr h₀ L h' m → News h₀ L h' (g (penO ca (spot + 1) t1' sm t2)) → Q (.int v t) { s with heap := h', toks := tk' }) :
    wpAny (model PySem.Challenge.rw_no0346_01.row.prog w) (ktrTop dp un gd cn cs L a ccd cl outer) (call (.ref 61) [.ref p, .int many tm]) Q E s := by
  obtain ⟨pre, post, e1, e2, h1, h2⟩ := hU.split
  have hne : ca ≠ p := by
    intro e
    subst e
    rw [e1] at hc
    rcases List.mem_append.mp hc with hc | hc
    · exact h1 _ hc rfl
    · rcases List.mem_cons.mp hc with hc | hc
      · have := congrArg (fun x : Addr × Obj => x.2.data) hc
        simp only [LCg.lst, penO, W.listOf, Data.seq.injEq] at this
        have h3 : ys = [.ref ca, .int spot t1, .int sm t2] := by simpa using congrArg Array.toList this.1
        rw [h3] at hI
        cases hI
      · exact h2 _ hc rfl
  have hoff : OwnOff (pre ++ post) [p] := by
    intro q hq b hb
    rw [List.mem_singleton.mp hb]
    rcases List.mem_append.mp hq with hq | hq
    · exact h1 q hq
    · exact h2 q hq
  have N1 : News h₀ L s.heap ((p, penO ca spot t1 sm t2) :: (ca, LCg.lst ys) :: (pre ++ post)) := by
    intro q hq
    rcases List.mem_cons.mp hq with rfl | hq
    · exact N _ (by rw [e1]; simp)
    · rcases List.mem_cons.mp hq with rfl | hq
      · exact N _ hc
      · refine N _ ?_
        rw [e1]
        rcases List.mem_append.mp hq with hq | hq
        · exact List.mem_append.mpr (.inl hq)
        · exact List.mem_append.mpr (.inr (.tail _ hq))
  refine law_draw w loose mean mg mb p ca spot sm many t1 t2 tm ys ns (pre ++ post) dp un gd cn cs a ccd cl outer A₀ base h₀ L m s Q E B F X N1 T hk hI hne hoff hs0 hs1 hm hm1 hl hd hu ?_
  intro v t t1' h' tk' hv0 hv1 F' N'
  refine ret v t t1' h' tk' hv0 hv1 F' ?_
  rw [e2]
  intro q hq
  rcases List.mem_append.mp hq with hq | hq
  · exact N' q (.tail _ (.tail _ (List.mem_append.mpr (.inl hq))))
  · rcases List.mem_cons.mp hq with rfl | hq
    · exact N' _ (.head _)
    · exact N' q (.tail _ (.tail _ (List.mem_append.mpr (.inr hq))))
end Mine

-- P2
namespace Mine

-- what is written and read
def encAll (ks : List Int) : List Int := (ks.map encI).flatten
def emptyS : Str := Str.ofString ""
theorem emptyS_eq : emptyS = ⟨#[]⟩ := by decide +kernel
theorem join_cps (ks : List Int) : (Txt.join emptyS (ks.map pieceS)).cps.toList = (encAll ks).map Int.toNat := by
  show (Builtin.Str.glued emptyS (ks.map pieceS)).cps.toList = _
  rw [StrLaws.glued_eq_join, emptyS_eq]
  induction ks with
  | nil => rfl
  | cons k r ih =>
    cases r with
    | nil =>
      show (pieceS k).cps.toList = _
      simp [pieceS, encAll]
    | cons k2 r =>
      show ((pieceS k) ++ (⟨#[]⟩ : Str) ++ Str.join ⟨#[]⟩ ((k2 :: r).map pieceS)).cps.toList = _
      rw [Str.cps_append, Str.cps_append, Array.toList_append, Array.toList_append, ih]
      simp [pieceS, encAll]
theorem encI_len (c : Int) : (encI c).length ≤ 3 := by
  unfold encI; repeat' split
  all_goals simp [qcode]
theorem encAll_len (ks : List Int) : (encAll ks).length ≤ 3 * ks.length := by
  induction ks with
  | nil => simp [encAll]
  | cons k r ih =>
    have := encI_len k
    simp only [encAll, List.map_cons, List.flatten_cons, List.length_append, List.length_cons] at ih ⊢
    omega
theorem join_len (ks : List Int) : (Txt.join emptyS (ks.map pieceS)).length ≤ 3 * ks.length := by
  have h := congrArg List.length (join_cps ks)
  rw [Array.length_toList, List.length_map] at h
  show (Txt.join emptyS (ks.map pieceS)).cps.size ≤ _
  rw [h]
  exact encAll_len ks
theorem encAll_low {ks : List Int} (h : KBa.In ks) : ∀ k ∈ encAll ks, 0 ≤ k ∧ k < 128 := by
  intro k hk
  obtain ⟨l, hl, hk⟩ := List.mem_flatten.mp hk
  obtain ⟨c, hc, rfl⟩ := List.mem_map.mp hl
  exact piece_low (h c hc).1 (h c hc).2 k hk
theorem join_low {ks : List Int} (h : KBa.In ks) : ∀ c ∈ (Txt.join emptyS (ks.map pieceS)).cps.toList, c < 128 := by
  intro c hc
  rw [join_cps] at hc
  obtain ⟨k, hk, rfl⟩ := List.mem_map.mp hc
  have := encAll_low h k hk
  omega
theorem piece_lens (ks : List Int) : ((ks.map pieceS).map (·.length)).sum + (ks.map pieceS).length * emptyS.length ≤ 3 * ks.length := by
  have e0 : emptyS.length = 0 := by rw [emptyS_eq]; rfl
  rw [e0, Nat.mul_zero, Nat.add_zero]
  induction ks with
  | nil => simp
  | cons k r ih =>
    have h1 := encI_len k
    have h2 : (pieceS k).length = (encI k).length := by show (pieceS k).cps.size = _; simp [pieceS]
    simp only [List.map_cons, List.sum_cons, List.length_cons] at ih ⊢
    omega
theorem ascii_join (ks : List Int) : asciiA (Txt.join emptyS (ks.map pieceS)) = byteArr (encAll ks) := by
  unfold asciiA byteArr
  rw [join_cps, List.map_map]
  rfl
theorem byteArr_app (a b : List Int) : byteArr (a ++ b) = byteArr a ++ byteArr b := by simp [byteArr]
theorem cat_enc {ks : List Int} (h : KBa.In ks) : catB (ks.map encA) = byteArr (encAll ks) := by
  induction ks with
  | nil => rfl
  | cons k r ih =>
    rw [List.map_cons, catB_cons, ih fun c hc => h c (.tail _ hc), encA_eq (h k (.head _)).1 (h k (.head _)).2]
    show _ = byteArr (encI k ++ encAll r)
    rw [byteArr_app]
theorem enc_same (b : Array UInt8) : catB ((KBw.bInts b).map encA) = asciiA (Txt.join emptyS ((KBw.bInts b).map pieceS)) := by
  rw [ascii_join, cat_enc (bInts_in b)]
theorem enc_same_of {ks : List Int} (h : KBa.In ks) : catB ((KBw.bInts (byteArr ks)).map encA) = asciiA (Txt.join emptyS (ks.map pieceS)) := by
  have := enc_same (byteArr ks)
  rw [KBa.ints_make h] at this ⊢
  exact this

-- reading a written piece
theorem hexw_hexd : ∀ n : Nat, n < 16 → hexw (hexd n) = (n : Int) := by decide
theorem hexd_blk : ∀ n : Nat, n < 16 → blk (hexd n) = hexd n := by decide
theorem unq_esc {a b : Int} {r : List Int} (ha : hexw a ≥ 0) (hb : hexw b ≥ 0) : unq (61 :: a :: b :: r) = (16 * hexw a + hexw b) :: unq r := by
  rw [unq, if_pos ⟨rfl, ha, hb⟩]
theorem unq_lit {c : Int} {r : List Int} (h : c ≠ 61) : unq (c :: r) = c :: unq r := unq_end fun k => h k.1
theorem unq_eqg {r : List Int} : unq (61 :: 103 :: r) = 61 :: 103 :: unq r := by
  rw [unq_end, unq_lit (by decide)]
  intro ⟨_, _, h, _⟩
  revert h
  show ¬ hexw 103 ≥ 0
  decide
theorem fdiv16 {c : Int} (h0 : 0 ≤ c) (h1 : c < 256) : (c.fdiv 16).toNat < 16 ∧ (c.fmod 16).toNat < 16 ∧ 16 * ((c.fdiv 16).toNat : Int) + ((c.fmod 16).toNat : Int) = c := by
  rw [Int.fdiv_eq_ediv_of_nonneg _ (by decide), Int.fmod_eq_emod_of_nonneg _ (by decide)]
  omega
theorem unq_qcode {c : Int} {r : List Int} (h0 : 0 ≤ c) (h1 : c < 256) : unq ((qcode c).map blk ++ r) = c :: unq r := by
  obtain ⟨a, b, e⟩ := fdiv16 h0 h1
  unfold qcode
  simp only [List.map_cons, List.map_nil, List.cons_append, List.nil_append]
  rw [hexd_blk _ a, hexd_blk _ b, show blk 61 = 61 by decide, unq_esc (by rw [hexw_hexd _ a]; omega) (by rw [hexw_hexd _ b]; omega), hexw_hexd _ a, hexw_hexd _ b, e]
theorem unq_encI {c : Int} {r : List Int} (h0 : 0 ≤ c) (h1 : c < 256) : unq ((encI c).map blk ++ r) = c :: unq r := by
  unfold encI
  split
  · rename_i h
    subst h
    show unq (blk 95 :: r) = _
    rw [show blk 95 = 32 by decide, unq_lit (by decide)]
  · split
    · rename_i h
      have h2 : ∀ n ∈ signsN, n ≠ 95 ∧ n ≠ 61 := by decide
      have h3 := h2 c.toNat (by simpa using h)
      show unq (blk c :: r) = _
      have e : blk c = c := by unfold blk; rw [if_neg (by omega)]
      rw [e, unq_lit (by omega)]
    · exact unq_qcode h0 h1
theorem unq_encAll {ks r : List Int} (h : KBa.In ks) : unq ((encAll ks).map blk ++ r) = ks ++ unq r := by
  induction ks with
  | nil => rfl
  | cons k t ih =>
    show unq ((encI k ++ encAll t).map blk ++ r) = _
    rw [List.map_append, List.append_assoc, unq_encI (h k (.head _)).1 (h k (.head _)).2, ih fun c hc => h c (.tail _ hc)]
    rfl
theorem byte_ints (b : Array UInt8) : byteArr (KBw.bInts b) = b := by
  unfold byteArr KBw.bInts
  rw [List.map_map]
  have : ((fun n : Int => n.toNat.toUInt8) ∘ fun c : UInt8 => (c.toNat : Int)) = id := by
    funext c
    simp
  rw [this, List.map_id]
theorem dec_enc (b : Array UInt8) : byteArr (unq ((KBw.bInts (catB ((KBw.bInts b).map encA))).map blk)) = b := by
  have h := bInts_in b
  rw [cat_enc h, KBa.ints_make (fun k hk => ⟨(encAll_low h k hk).1, by have := (encAll_low h k hk).2; omega⟩)]
  have := unq_encAll (r := []) h
  rw [List.append_nil] at this
  rw [this]
  simp [unq, byte_ints]

-- the row of pieces and what is due of it
def DecP (bs : List (Array UInt8)) (d : Array UInt8) : Prop := ∀ r : List Int, unq ((KBw.bInts (catB bs)).map blk ++ r) = KBw.bInts d ++ unq r
theorem catB_snoc (bs : List (Array UInt8)) (b : Array UInt8) : catB (bs ++ [b]) = catB bs ++ b := by
  unfold catB; rw [List.foldl_append]; rfl
theorem decP_nil : DecP [] #[] := fun r => rfl
theorem decP_snoc {bs : List (Array UInt8)} {d b e : Array UInt8} (h : DecP bs d) (k : ∀ r, unq ((KBw.bInts b).map blk ++ r) = KBw.bInts e ++ unq r) : DecP (bs ++ [b]) (d ++ e) := by
  intro r
  rw [catB_snoc, KBw.ints_app rfl rfl, KBw.ints_app rfl rfl, List.map_append, List.append_assoc, h, k, List.append_assoc]
theorem decP_end {bs : List (Array UInt8)} {d : Array UInt8} (h : DecP bs d) : byteArr (unq ((KBw.bInts (catB bs)).map blk)) = d := by
  have := h []
  rw [List.append_nil] at this
  rw [this]
  simp [unq, byte_ints]
theorem decP_end2 {bs : List (Array UInt8)} {d : Array UInt8} (h : DecP bs d) : byteArr (unq ((KBw.bInts (catB bs ++ [61].toArray)).map blk)) = d ++ [61].toArray := by
  rw [KBw.ints_app rfl rfl, List.map_append]
  have := h [61]
  show byteArr (unq ((KBw.bInts (catB bs)).map blk ++ [61])) = _
  rw [this, byteArr_app, byte_ints]
  rfl
theorem dec_last : byteArr (unq ((KBw.bInts [61, 52].toArray).map blk)) = [61, 52].toArray := by decide
theorem piece_us : ∀ r, unq ((KBw.bInts [95].toArray).map blk ++ r) = KBw.bInts [32].toArray ++ unq r := by
  intro r
  show unq (blk 95 :: r) = 32 :: unq r
  rw [show blk 95 = 32 by decide, unq_lit (by decide)]
theorem piece_eqg : ∀ r, unq ((KBw.bInts [61, 103].toArray).map blk ++ r) = KBw.bInts [61, 103].toArray ++ unq r := by
  intro r
  exact unq_eqg
theorem piece_lit (c : UInt8) (h1 : c ≠ 95) (h2 : c ≠ 61) : ∀ r, unq ((KBw.bInts [c].toArray).map blk ++ r) = KBw.bInts [c].toArray ++ unq r := by
  intro r
  have e1 : (c.toNat : Int) ≠ 95 := fun e => h1 (by apply UInt8.toNat_inj.mp; show c.toNat = 95; omega)
  have e2 : (c.toNat : Int) ≠ 61 := fun e => h2 (by apply UInt8.toNat_inj.mp; show c.toNat = 61; omega)
  show unq (blk (c.toNat : Int) :: r) = (c.toNat : Int) :: unq r
  have e : blk (c.toNat : Int) = c.toNat := by unfold blk; rw [if_neg e1]
  rw [e, unq_lit e2]
end Mine

-- BW
namespace Mine
open Builtin

theorem rng_no_bytes : typeLookup (.type "range") "__bytes__" = pure none := by rw [typeLookup_type, builtinLookup_eq_fast]; kernel_rfl
theorem rng_no_index : typeLookup (.type "range") "__index__" = pure none := by rw [typeLookup_type, builtinLookup_eq_fast]; kernel_rfl
theorem rng_no_buffer : typeLookup (.type "range") "__buffer__" = pure none := by rw [typeLookup_type, builtinLookup_eq_fast]; kernel_rfl
theorem rng_split : splitId "range.__len__" = some ("range", "__len__") := by decide +kernel

theorem rangeKs_get {a : Int} {n i : Nat} (h : i < n) : (rangeKs a n)[i]? = some (a + (i : Int)) := by simp [rangeKs, h]
section
variable {prog : Program} {w : World} {A : Around} {E : Value → Shared → Prop} {s : Shared}
theorem rng_loop {R : Result → Shared → Prop} {I S : Addr} {a : Int} {n : Nat} (hh : A.handled = none) (ha : 0 ≤ a) (hb : a + (n : Int) ≤ 256) (hIS : I ≠ S) :
    ∀ (k i : Nat) (s : Shared), n - i = k → i ≤ n → IsRangeIter s.heap I (a + (i : Nat) * 1) ((n : Int) - (i : Nat)) 1 → s.heap.get? S = some { cls := .type "bytearray", data := .bytearray (byteArr ((rangeKs a n).take i)) } →
      (∀ h' t k', (∀ b o, b ≠ I → b ≠ S → s.heap.get? b = some o → h'.get? b = some o) → R (.ok (.ret (.bytes (byteArr (rangeKs a n)) t))) { s with heap := h', toks := k' }) →
      codeAny (model prog w) A (.builtin "bytes.__new__.loop" ⟨[.type "bytes", .ref I, .ref S], []⟩) R s := by
  have W := (Walks.range (prog := prog) (w := w) (A := A.in1) hh I a 1 n)
  intro k
  induction k with
  | zero =>
    intro i s hk hle hit hS hR
    have hin : i = n := by omega
    subst hin
    refine codeAny_builtin F.bm_entry_loop ?_
    rw [Around.under_plainId F.bm_plain_loop _]
    show wpAny _ A.in1 (pyNext (.ref I) >>= _) _ _ s
    refine wpAny_bind (W.done s _ _ hit fun h' tk he => ?_)
    have hS' : h'.get? S = some { cls := .type "bytearray", data := .bytearray (byteArr ((rangeKs a i).take i)) } := he S _ (by simpa using Ne.symm hIS) hS
    refine wpAny_bind ?_
    unfold Builtin.Bytes.payload Builtin.Bytes.payload?
    refine wpAny_bind (wpAny_bind (wpAny_load hS' ?_))
    refine wpAny_pure (wpAny_pure ?_)
    have e : (rangeKs a i).take i = rangeKs a i := List.take_of_length_le (Nat.le_of_eq (rangeKs_length a i))
    rw [e]
    refine wpAny_bind (wpAny_mkBytes ?_ (by rw [byteArr_size, rangeKs_length, sizeLine_eq]; omega))
    show wpAny _ _ (if (Value.type "bytes" == Value.type "bytes") = true then _ else _) _ _ _
    refine KFB.if_so (by decide) ?_
    first
      | exact wpAny_pure (hR h' _ _ fun b o hb _ e => he b o (by simpa using hb) e)
      | exact wpAny_bind (wpAny_pure (wpAny_pure (hR h' _ _ fun b o hb _ e => he b o (by simpa using hb) e)))
  | succ k ih =>
    intro i s hk hle hit hS hR
    have hlt : i < n := by omega
    refine codeAny_builtin F.bm_entry_loop ?_
    rw [Around.under_plainId F.bm_plain_loop _]
    show wpAny _ A.in1 (pyNext (.ref I) >>= _) _ _ s
    refine wpAny_bind (W.item i s _ _ hlt hit fun v h' tk hP hit' hs => ?_)
    obtain ⟨t, rfl⟩ := hP
    have hS' : h'.get? S = some { cls := .type "bytearray", data := .bytearray (byteArr ((rangeKs a n).take i)) } := hs S _ (by simpa using Ne.symm hIS) hS
    refine wpAny_bind (wpAny_holding (wpAny_of_eq (rfl : asIndex (.int (a + (i : Int) * 1) t) = pure (a + (i : Int) * 1)) ?_))
    refine wpAny_bind (wpAny_letGo ?_)
    refine KFB.if_not (by simp only [Bool.or_eq_false_iff, decide_eq_false_iff_not]; omega) ?_
    refine wpAny_bind ?_
    show wpAny _ _ (updateBytearray S (·.push (a + (i : Int) * 1).toNat.toUInt8)) _ _ _
    unfold updateBytearray
    refine wpAny_bind (wpAny_load hS' ?_)
    show wpAny _ _ (update S (Obj.mapBytearray (·.push (a + (i : Int) * 1).toNat.toUInt8)) >>= fun _ => lookBehind S) _ _ _
    refine wpAny_bind (wpAny_update hS' ?_)
    have hS₂ : (h'.update S (Obj.mapBytearray (·.push (a + (i : Int) * 1).toNat.toUInt8))).get? S = some { cls := .type "bytearray", data := .bytearray (byteArr ((rangeKs a n).take (i + 1))) } := by
      rw [byteArr_take (rangeKs_get hlt), show a + (i : Int) * 1 = a + (i : Int) by omega]
      exact Heap.get?_update_self (Obj.mapBytearray (·.push (a + (i : Int)).toNat.toUInt8)) hS' rfl
    refine wpAny_lookBehind hS₂ ?_ ?_
    · show (if (byteArr ((rangeKs a n).take (i + 1))).size > sizeLine then some "bytearray:memory" else none) = none
      rw [if_neg]
      rw [byteArr_size, List.length_take, rangeKs_length, sizeLine_eq]
      omega
    · have hI' : IsRangeIter (h'.update S (Obj.mapBytearray (·.push (a + (i : Int) * 1).toNat.toUInt8))) I (a + ((i + 1 : Nat) : Int) * 1) ((n : Int) - ((i + 1 : Nat) : Int)) 1 := (Heap.get?_update_other _ _ (Ne.symm hIS)).trans hit'
      refine wpAny_pure ⟨plainId_quiet F.bm_plain_loop _, ih (i + 1) { s with heap := h'.update S (Obj.mapBytearray (·.push (a + (i : Int) * 1).toNat.toUInt8)), toks := tk } (by omega) hlt hI' hS₂ fun h3 t' k' hk3 => ?_⟩
      exact hR h3 t' k' fun b o hbI hbS e => hk3 b o hbI hbS ((Heap.get?_update_other _ _ (Ne.symm hbS)).trans (hs b o (by simpa using hbI) e))
theorem rng_hint {r : Addr} {a b c : Int} {t u v : Tok} {n : Nat} {Q : Unit → Shared → Prop} (hr : IsRange s.heap r a b c t u v) (hn : Builtin.Range.rangeSize a b c = n) (hlen : n ≤ 2 ^ 24)
    (h : Q () { s with toks := s.toks + 1 + 1 }) : wpAny (model prog w) A (Bytes.lengthHint "bytes.__new__" (.ref r)) Q E s := by
  unfold Bytes.lengthHint
  refine wpAny_bind (wpAny_specialOf ⟨_, hr, rfl⟩ F.slot_range_len.lookup ?_)
  dsimp only
  rw [rng_split]
  dsimp only
  refine wpAny_bind (wpAny_isInstance (T := "range") (b := true) ⟨_, hr, rfl⟩ F.isi_self_range ?_)
  refine KFB.if_not rfl ?_
  refine KFB.if_not (by decide +kernel) ?_
  refine KFB.if_so rfl ?_
  refine wpAny_bind (wpAny_rule ?_)
  refine wpAny_bind (wpAny_attempt (call_len_range hr hn (by omega) ?_))
  refine wpAny_bind (m := asInt? _) (wpAny_pure ?_)
  refine KFB.if_not ?_ (wpAny_pure h)
  simp [Bytes.tooLong, sizeLine]; omega
theorem rng_new {r : Addr} {a b : Int} {t u v : Tok} {n : Nat} {Q : Value → Shared → Prop} (hh : A.handled = none) (hr : IsRange s.heap r a b 1 t u v) (hsmall : Builtin.Range.small a b 1 = true) (hn : Builtin.Range.rangeSize a b 1 = (n : Int)) (ha : 0 ≤ a) (hb : a + (n : Int) ≤ 256)
    (hQ : ∀ h' t k, (∀ b o, s.heap.get? b = some o → h'.get? b = some o) → Q (.bytes (byteArr (rangeKs a n)) t) { s with heap := h', toks := k }) :
    codeAny (model prog w) A (.call (.builtin "bytes.__new__") ⟨[.type "bytes", .ref r], []⟩) (wants Q E) s := by
  refine codeAny_of_tree ?_
  show wpAny _ A.in1 (do checkBuiltinCall "bytes.__new__" ⟨[.type "bytes", .ref r], []⟩; again (.builtin "bytes.__new__" ⟨[.type "bytes", .ref r], []⟩)) _ _ s
  refine wpAny_bind (wpAny_of_eq (F.bm_newCall _) (wpAny_pure ⟨plainId_quiet F.bm_plain _, codeAny_builtin F.bm_entry ?_⟩))
  rw [Around.under_plainId F.bm_plain _]
  have hT : s.TypeIs (.ref r) "range" := ⟨_, hr, rfl⟩
  unfold Builtin.«bytes.__new__»
  refine wpAny_bind (wpAny_of_eq (a := true) rfl ?_)
  refine KFB.if_not rfl ?_
  refine wpAny_bind (wpAny_of_eq F.bm_sub ?_)
  refine KFB.if_not rfl ?_
  refine wpAny_bind (wpAny_of_eq (F.bm_bind _) ?_)
  refine wpAny_bind (wpAny_of_eq (a := ()) rfl ?_)
  refine wpAny_bind (wpAny_of_eq (a := ()) rfl ?_)
  refine KFB.if_not rfl ?_
  refine wpAny_bind (wpAny_specialOf hT rng_no_bytes ?_)
  refine wpAny_bind (wpAny_bind ?_)
  show wpAny _ _ (load r >>= _) _ _ _
  refine wpAny_bind (wpAny_load hr ?_)
  refine wpAny_pure (wpAny_pure ?_)
  refine KFB.if_not rfl ?_
  refine wpAny_bind (wpAny_specialOf hT rng_no_index ?_)
  refine KFB.if_so rfl ?_
  first
    | show wpAny _ _ (Builtin.Bytes.buffer? "bytes.__new__" (.ref r) true >>= _) _ _ _
    | (refine wpAny_bind ?_; show wpAny _ _ (Builtin.Bytes.buffer? "bytes.__new__" (.ref r) true >>= _) _ _ _)
  refine wpAny_bind ?_
  unfold Builtin.Bytes.buffer?
  refine wpAny_bind (wpAny_specialOf hT rng_no_buffer ?_)
  refine wpAny_bind (wpAny_specialOf hT rng_no_buffer ?_)
  refine wpAny_pure ?_
  refine wpAny_bind (wpAny_tryCatch (wpAny_pyIter_range hr hsmall ?_))
  have hr₁ : IsRange (s.heap.push { cls := .type "range_iterator", data := .fields #[rawInt a, rawInt (Builtin.Range.rangeSize a b 1), rawInt 1] }) r a b 1 t u v := Heap.get?_push_of_some _ hr
  refine wpAny_bind (wpAny_holding (rng_hint hr₁ hn (by omega) ?_))
  refine wpAny_bind ?_
  unfold Builtin.Bytes.newBytearray
  refine wpAny_newObj_type ?_ (Nat.zero_le _)
  have hit : IsRangeIter ((s.heap.push { cls := .type "range_iterator", data := .fields #[rawInt a, rawInt (Builtin.Range.rangeSize a b 1), rawInt 1] }).push { cls := .type "bytearray", data := .bytearray #[] }) s.heap.objs.size (a + ((0 : Nat) : Int) * 1) ((n : Int) - ((0 : Nat) : Int)) 1 := by
    have e : a + ((0 : Nat) : Int) * 1 = a := by simp
    have e2 : (n : Int) - ((0 : Nat) : Int) = Builtin.Range.rangeSize a b 1 := by rw [hn]; simp
    rw [e, e2]
    exact Heap.get?_push_of_some _ (Heap.get?_push_size _ rfl)
  have hsz : (s.heap.push { cls := .type "range_iterator", data := .fields #[rawInt a, rawInt (Builtin.Range.rangeSize a b 1), rawInt 1] }).objs.size = s.heap.objs.size + 1 := Heap.size_push _ _
  have main := rng_loop (prog := prog) (w := w) (A := A) (R := wants Q E) (I := s.heap.objs.size) (S := (s.heap.push { cls := .type "range_iterator", data := .fields #[rawInt a, rawInt (Builtin.Range.rangeSize a b 1), rawInt 1] }).objs.size) (a := a) (n := n) hh ha hb (by rw [hsz]; exact Nat.ne_of_lt (Nat.lt_succ_self _))
    n 0 { s with heap := (s.heap.push { cls := .type "range_iterator", data := .fields #[rawInt a, rawInt (Builtin.Range.rangeSize a b 1), rawInt 1] }).push { cls := .type "bytearray", data := .bytearray #[] }, toks := s.toks + 1 + 1 } (Nat.sub_zero n) (Nat.zero_le _) hit (Heap.get?_push_size _ rfl)
    fun h' t k hk => hQ h' t k fun b o e => hk b o (Nat.ne_of_lt (Heap.lt_size e)) (by rw [hsz]; exact Nat.ne_of_lt (Nat.lt_succ_of_lt (Heap.lt_size e))) (Heap.get?_push_of_some _ (Heap.get?_push_of_some _ e))
  first
    | exact wpAny_pure ⟨plainId_quiet F.bm_plain_loop _, main⟩
    | exact wpAny_pure (wpAny_pure ⟨plainId_quiet F.bm_plain_loop _, main⟩)
theorem bytes_range {r : Addr} {a b : Int} {t u v : Tok} {n : Nat} {h₀ : Heap} {L : Addr} {m : Str → Option Value} {news : List (Addr × Obj)} {Q : Value → Shared → Prop} (Fm : Fr h₀ L s.heap m) (N : News h₀ L s.heap news) (hh : A.handled = none) (hr : IsRange s.heap r a b 1 t u v) (hsmall : Builtin.Range.small a b 1 = true) (hn : Builtin.Range.rangeSize a b 1 = (n : Int)) (ha : 0 ≤ a) (hb : a + (n : Int) ≤ 256)
    (h : ∀ h' t k, Fr h₀ L h' m → News h₀ L h' news → Q (.bytes (byteArr (rangeKs a n)) t) { s with heap := h', toks := k }) : wpAny (model prog w) A (call (.type "bytes") [.ref r]) Q E s := by
  refine callType_codes (Q₁ := fun obj s₁ => s₁.TypeIs obj "bytes" ∧ Q obj s₁) F.bm_called (F.bm_typeCall _) F.entry_object_init
    (rng_new hh hr hsmall hn ha hb fun h' t k hk => ⟨PySem.W.typeIs_bytes _ _ _, h h' t k (Fr.keeps Fm hk) (News.grown N hk)⟩) fun obj s₁ h₁ => ?_
  exact ⟨h₁.1, F.args_object_init_2 obj _, object_init_meets F.bm_called.init.lookup F.bm_called.made (by decide) prog w A.in1 _ s₁ ⟨h₁.1, rfl, h₁.2⟩⟩
end
end Mine

-- LP
namespace Mine

theorem dropTup {h₀ h : Heap} {L a : Addr} {d : Array Value} {n : Nat} {news : List (Addr × Obj)} (N : News h₀ L h ((a, ({ cls := .type "tuple", data := .seq d n } : Obj)) :: news)) : News h₀ L h news := fun p hp => N p (.tail _ hp)

/-- what a turn of the loop over the pieces leaves -/
def RowP (n : Nat) (bs : List (Array UInt8)) (d : Array UInt8) (spot : Int) : Prop := DecP bs d ∧ bs.length ≤ n ∧ (catB bs).size ≤ 3 * n ∧ d.size ≤ 2 * n ∧ 0 ≤ spot ∧ spot ≤ 100 + 4 * (n : Int)
structure RowSt where
  vs : List Value
  bs : List (Array UInt8)
  e : Nat
  spot : Int
  t1 : Tok
  d : Array UInt8
  td : Tok
abbrev rowLed (l p ca cell : Addr) (oc : Obj) (ys : List Value) (sm : Int) (t2 : Tok) (c : RowSt) : List (Addr × Obj) := [(l, W.listOf c.vs.toArray c.e), (p, penO ca c.spot c.t1 sm t2), (ca, LCg.lst ys), (cell, oc)]
abbrev rowPs (c : RowSt) : List (Str × Value) := [(Str.ofString "due", .bytes c.d c.td)]
abbrev rowStored : List Str := [Str.ofString "code", Str.ofString "way", Str.ofString "figures", Str.ofString "one", Str.ofString "two", Str.ofString "some"]
def RowEnd (h₀ : Heap) (L l p ca cell : Addr) (oc : Obj) (ys : List Value) (sm : Int) (t2 : Tok) (own : List (Addr × Obj)) (m₀ : Str → Option Value) (n : Nat) (s s₂ : Shared) : Prop :=
  ∃ h' tk m' news' c, s₂ = { s with heap := h', toks := tk } ∧ Fr h₀ L h' m' ∧ News h₀ L h' news' ∧ (∀ q ∈ rowLed l p ca cell oc ys sm t2 c ++ own, q ∈ news') ∧ BytesAre c.vs c.bs ∧ m' (Str.ofString "due") = some (.bytes c.d c.td) ∧ (∀ z, z ≠ Str.ofString "lap" → z ≠ Str.ofString "due" → rowStored.contains z = false → m' z = m₀ z) ∧ RowP n c.bs c.d c.spot
def RowPost (h₀ : Heap) (L l p ca cell : Addr) (oc : Obj) (ys : List Value) (sm : Int) (t2 : Tok) (own : List (Addr × Obj)) (m₀ : Str → Option Value) (n : Nat) (s : Shared) (Q : Flow → Shared → Prop) (f : Flow) (s₂ : Shared) : Prop :=
  match f with
  | .ret v => Q (.ret v) s₂
  | .brk => Q .next s₂
  | _ => RowEnd h₀ L l p ca cell oc ys sm t2 own m₀ n s s₂
theorem row_end {h₀ : Heap} {L l p ca cell : Addr} {oc : Obj} {ys : List Value} {sm : Int} {t2 : Tok} {own news' : List (Addr × Obj)} {m₀ m' : Str → Option Value} {n : Nat} {s : Shared} {h' : Heap} {tk : Nat} {vs : List Value} {bs : List (Array UInt8)} {b d : Array UInt8} {tb td t1 : Tok} {e : Nat} {spot : Int}
    (F : Fr h₀ L h' m') (N : News h₀ L h' news') (hl : (l, W.listOf (vs.toArray.push (.bytes b tb)) e) ∈ news') (hp : (p, penO ca spot t1 sm t2) ∈ news') (hc : (ca, LCg.lst ys) ∈ news') (hcl : (cell, oc) ∈ news') (ho : ∀ q ∈ own, q ∈ news')
    (hB : BytesAre vs bs) (hd : m' (Str.ofString "due") = some (.bytes d td)) (hz : ∀ z, z ≠ Str.ofString "lap" → z ≠ Str.ofString "due" → rowStored.contains z = false → m' z = m₀ z) (hP : RowP n (bs ++ [b]) d spot) :
    RowEnd h₀ L l p ca cell oc ys sm t2 own m₀ n s { s with heap := h', toks := tk } := by
  refine ⟨h', tk, m', news', ⟨vs ++ [.bytes b tb], bs ++ [b], e, spot, t1, d, td⟩, rfl, F, N, ?_, hB.append (.cons b tb .nil), hd, hz, hP⟩
  intro q hq
  rcases List.mem_append.mp hq with hq | hq
  · simp only [List.mem_cons, List.not_mem_nil, or_false] at hq
    rcases hq with rfl | rfl | rfl | rfl
    · simpa only [List.push_toArray] using hl
    · exact hp
    · exact hc
    · exact hcl
  · exact ho q hq

section
variable {prog : Program} {w : World} {A : Around} {E : Value → Shared → Prop} {s : Shared} {env : Env} {h₀ : Heap} {body : List Stmt} {Q : Flow → Shared → Prop}
theorem row_loop {r : Addr} {b₀ : Int} {t₀ u₀ v₀ : Tok} {n : Nat} {m₀ : Str → Option Value} {l p ca cell : Addr} {oc : Obj} {ys : List Value} {sm spot₀ : Int} {t1₀ t2 td₀ : Tok} {news : List (Addr × Obj)}
    (hh : A.handled = none) (hr : IsRange s.heap r 0 b₀ 1 t₀ u₀ v₀) (hsmall : Builtin.Range.small 0 b₀ 1 = true) (hn : Builtin.Range.rangeSize 0 b₀ 1 = (n : Int)) (F : Fr h₀ env.locals s.heap m₀) (N : News h₀ env.locals s.heap news)
    (hl : (l, W.listOf #[] 0) ∈ news) (hp : (p, penO ca spot₀ t1₀ sm t2) ∈ news) (hc : (ca, LCg.lst ys) ∈ news) (_hcd : oc.data = Data.cell (some (.ref p))) (hcl : (cell, oc) ∈ news) (hdue : m₀ (Str.ofString "due") = some (.bytes #[] td₀)) (hs0 : 0 ≤ spot₀) (hs1 : spot₀ ≤ 100)
    (turn : ∀ (vs : List Value) (bs : List (Array UInt8)) (e : Nat) (spot : Int) (t1 td : Tok) (d : Array UInt8) (i : Nat) (k : Int) t (u : Str → Option Value) h tk own, i < n → OwnOff own [l, p, ca, cell] → KstMark → BytesAre vs bs → RowP i bs d spot →
      Fr h₀ env.locals h (fun y => if y = Str.ofString "lap" then some (.int k t) else kstB (fun z => if rowStored.contains z then u z else m₀ z) [(Str.ofString "due", .bytes d td)] y) →
      News h₀ env.locals h ((l, W.listOf vs.toArray e) :: (p, penO ca spot t1 sm t2) :: (ca, LCg.lst ys) :: (cell, oc) :: own) →
      wpAny (model prog w) A (execs body env) (RowPost h₀ env.locals l p ca cell oc ys sm t2 own m₀ (i + 1) { s with heap := h, toks := tk } Q) E { s with heap := h, toks := tk })
    (done : ∀ (vs : List Value) (bs : List (Array UInt8)) (e : Nat) (spot : Int) (t1 td : Tok) (d : Array UInt8) (u : Str → Option Value) h tk, BytesAre vs bs → RowP n bs d spot →
      Fr h₀ env.locals h (fun y => if y = Str.ofString "lap" then u y else kstB (fun z => if rowStored.contains z then u z else m₀ z) [(Str.ofString "due", .bytes d td)] y) →
      News h₀ env.locals h [(l, W.listOf vs.toArray e), (p, penO ca spot t1 sm t2), (ca, LCg.lst ys), (cell, oc)] → Q .next { s with heap := h, toks := tk }) :
    wpAny (model prog w) A (pyIter (.ref r)) (fun it s₂ => LoopAtV prog w A h₀ env (Str.ofString "lap") body Q E it s₂) E s := by
  have N0 : News h₀ env.locals s.heap (rowLed l p ca cell oc ys sm t2 ⟨[], [], 0, spot₀, t1₀, #[], td₀⟩) := by
    intro q hq
    simp only [List.mem_cons, List.not_mem_nil, or_false] at hq
    rcases hq with rfl | rfl | rfl | rfl
    · exact N _ hl
    · exact N _ hp
    · exact N _ hc
    · exact N _ hcl
  refine kst_range (x := Str.ofString "lap") (rowLed l p ca cell oc ys sm t2) rowPs (fun c => BytesAre c.vs c.bs) rowStored (fun pre c => RowP pre.length c.bs c.d c.spot) ⟨[], [], 0, spot₀, t1₀, #[], td₀⟩ hh hr hsmall hn F N0 .nil ?_ ?_ ?_ ?_
  · intro q hq
    rw [List.mem_singleton.mp hq]
    exact hdue
  · exact ⟨decP_nil, Nat.le_refl _, Nat.le_refl _, Nat.le_refl _, hs0, by simpa using hs1⟩
  · intro c pre k t u h tk own hk hlt hoff hB hP F' N'
    refine wpAny_mono (turn c.vs c.bs c.e c.spot c.t1 c.td c.d pre.length k t u h tk own hlt hoff kstMark hB hP F' N') (fun f s₂ q => ?_) fun _ _ e => e
    have up : RowEnd h₀ env.locals l p ca cell oc ys sm t2 own m₀ (pre.length + 1) { s with heap := h, toks := tk } s₂ →
        InvEndN h₀ env.locals (KstS (rowLed l p ca cell oc ys sm t2) rowPs (fun c => BytesAre c.vs c.bs) (Str.ofString "lap") rowStored m₀ (fun pre c => RowP pre.length c.bs c.d c.spot) (pre ++ [k])) own (List.map (·.1) (rowLed l p ca cell oc ys sm t2 ⟨[], [], 0, spot₀, t1₀, #[], td₀⟩)) { s with heap := h, toks := tk } s₂ := by
      rintro ⟨h', tk', m', news', c', rfl, F9, N9, hsub, hB', hd', hz', hP'⟩
      refine InvEndN.intro F9 N9 (nx := rowLed l p ca cell oc ys sm t2 c') ?_ rfl (fun q hq => hsub q (List.mem_append.mpr (.inl hq))) (fun q hq => hsub q (List.mem_append.mpr (.inr hq)))
      refine ⟨c', rfl, hB', ?_, ?_, ?_⟩
      · intro q hq
        rw [List.mem_singleton.mp hq]
        exact hd'
      · intro z h1 h2 h3
        exact hz' z h1 (h2 _ (.head _)) h3
      · show RowP (pre ++ [k]).length c'.bs c'.d c'.spot
        rw [List.length_append]
        exact hP'
    cases f with
    | ret v => exact q
    | brk => exact q
    | next => exact up q
    | cont => exact up q
  · intro c u h tk hB hP F' N'
    rw [rangeKs_length] at hP
    exact done c.vs c.bs c.e c.spot c.t1 c.td c.d u h tk hB hP F' N'
end

theorem RowP.dec {n : Nat} {bs : List (Array UInt8)} {d : Array UInt8} {spot : Int} (h : RowP n bs d spot) : DecP bs d := h.1
theorem RowP.len {n : Nat} {bs : List (Array UInt8)} {d : Array UInt8} {spot : Int} (h : RowP n bs d spot) : bs.length ≤ n := h.2.1
theorem RowP.cat {n : Nat} {bs : List (Array UInt8)} {d : Array UInt8} {spot : Int} (h : RowP n bs d spot) : (catB bs).size ≤ 3 * n := h.2.2.1
theorem RowP.due {n : Nat} {bs : List (Array UInt8)} {d : Array UInt8} {spot : Int} (h : RowP n bs d spot) : d.size ≤ 2 * n := h.2.2.2.1
theorem RowP.lo {n : Nat} {bs : List (Array UInt8)} {d : Array UInt8} {spot : Int} (h : RowP n bs d spot) : 0 ≤ spot := h.2.2.2.2.1
theorem RowP.hi {n : Nat} {bs : List (Array UInt8)} {d : Array UInt8} {spot : Int} (h : RowP n bs d spot) : spot ≤ 100 + 4 * (n : Int) := h.2.2.2.2.2
theorem row_step {n : Nat} {bs : List (Array UInt8)} {d b e : Array UInt8} {spot spot' : Int} (h : RowP n bs d spot) (k : ∀ r, unq ((KBw.bInts b).map blk ++ r) = KBw.bInts e ++ unq r) (h1 : b.size ≤ 3) (h2 : e.size ≤ 2) (h3 : spot ≤ spot') (h4 : spot' ≤ spot + 4) : RowP (n + 1) (bs ++ [b]) (d ++ e) spot' := by
  have := h.len; have := h.cat; have := h.due; have := h.lo; have := h.hi
  refine ⟨decP_snoc h.dec k, ?_, ?_, ?_, by omega, by omega⟩
  · simp only [List.length_append, List.length_cons, List.length_nil]; omega
  · rw [catB_snoc, Array.size_append]; omega
  · rw [Array.size_append]; omega
end Mine

-- BI
namespace Mine
open PySem.NumText

def figsN : List Nat := [48, 49, 50, 51, 52, 53, 54, 55, 56, 57, 97, 98, 99, 100, 101, 102, 65, 66, 67, 68, 69, 70]
def figV (c : Nat) : Nat := (digit? c).getD 0
def hexFacts (a b : Nat) : Bool := decide (sign ([a, b].dropWhile blank) = (false, [a, b])) && decide (based 16 [a, b] = (16, false, [a, b])) && decide (digits? 16 (([a, b].reverse.dropWhile blank).reverse) = some #[figV a, figV b])
theorem hex_facts : (figsN.all fun a => figsN.all fun b => hexFacts a b) = true := by decide +kernel
theorem hex_read {a b : Nat} (ha : a ∈ figsN) (hb : b ∈ figsN) : (int_private% "readNumeral") 0 16 [a, b] = (int_private% "Numeral.value") ((figV a * 16 + figV b : Nat) : Int) := by
  have h := List.all_eq_true.mp (List.all_eq_true.mp hex_facts a ha) b hb
  unfold hexFacts at h
  simp only [Bool.and_eq_true, decide_eq_true_eq] at h
  obtain ⟨⟨h1, h2⟩, h3⟩ := h
  rw [readNumeral_eq, h1, h2]
  show judge 0 false 16 false (digits? 16 ([a, b].reverse.dropWhile blank).reverse) = _
  rw [h3]
  show (int_private% "Numeral.value") ((((0 * 16 + figV a) * 16 + figV b : Nat) : Int)) = _
  rw [Nat.zero_mul, Nat.zero_add]

theorem wp_text16 {M : Model} {A : Around} {E : Value → Shared → Prop} {s : Shared} {Q : Value → Shared → Prop} {v : Value} {text : List Nat} {n : Int}
    (hs : (text.takeWhile (· != 0)).length ≤ 640) (hr : (int_private% "readNumeral") 0 16 (text.takeWhile (· != 0)) = (int_private% "Numeral.value") n)
    (ha : ((text.takeWhile (· != 0)).length == text.length) = true) (h : Q (.int n s.toks) { s with toks := s.toks + 1 }) :
    wpAny M A ((int_private% "intFromText") v text 16) Q E s := by
  obtain ⟨hp, g, d, tk, os⟩ := s
  repeat (any_goals (first
    | assumption
    | (with_reducible refine wpAny_ite_true (decide_eq_true hs) ?_)
    | (with_reducible refine wpAny_ite_true (decide_eq_true ha) ?_)
    | wp_step))
  all_goals (try rw [hr])
  all_goals (try dsimp only)
  repeat (any_goals (first
    | assumption
    | (with_reducible refine wpAny_ite_true (decide_eq_true hs) ?_)
    | (with_reducible refine wpAny_ite_true (decide_eq_true ha) ?_)
    | wp_step))
structure HidP (p : Prop) : Prop where
  out : p
theorem figs_low : ∀ n ∈ figsN, n < 128 ∧ n ≠ 0 := by decide
theorem num_text {a b : Nat} (ha : a ∈ figsN) (hb : b ∈ figsN) : numTextOf ⟨#[a, b]⟩ = [a, b] := by
  have h1 := figs_low a ha
  have h2 := figs_low b hb
  show (if (#[a, b] : Array Nat).all (· < 128) then _ else _) = _
  rw [if_pos (by simp [h1.1, h2.1])]
theorem num_seen {a b : Nat} (ha : a ∈ figsN) (hb : b ∈ figsN) : numSeenOf ⟨#[a, b]⟩ = [a, b] := by
  have h1 := figs_low a ha
  have h2 := figs_low b hb
  show (numTextOf ⟨#[a, b]⟩).takeWhile (· != 0) = _
  rw [num_text ha hb]
  refine takeWhile_all fun c hc => ?_
  simp only [List.mem_cons, List.not_mem_nil, or_false] at hc
  rcases hc with rfl | rfl
  · exact bne_iff_ne.mpr h1.2
  · exact bne_iff_ne.mpr h2.2
theorem gives_hex {a b : Nat} {u v : Tok} (ha : a ∈ figsN) (hb : b ∈ figsN) : Gives (Builtin.«int.__new__» ⟨[.type "int", .str ⟨#[a, b]⟩ u, .int 16 v], []⟩) (.int ((figV a * 16 + figV b : Nat) : Int)) :=
  .of_wp fun M A E s Q h => by
    obtain ⟨hp, g, d, tk, os⟩ := s
    have f1 := F.conv_sub_int
    have f2 := F.madeHere_int
    have f6 : typeOf (.str ⟨#[a, b]⟩ u) = pure (.type "str") := rfl
    have hs : (numSeenOf ⟨#[a, b]⟩).length ≤ 640 := by rw [num_seen ha hb]; exact Nat.le_of_ble_eq_true rfl
    have hr : (int_private% "readNumeral") 0 16 (numSeenOf ⟨#[a, b]⟩) = (int_private% "Numeral.value") ((figV a * 16 + figV b : Nat) : Int) := by rw [num_seen ha hb]; exact hex_read ha hb
    have hq : ((numSeenOf ⟨#[a, b]⟩).length == (numTextOf ⟨#[a, b]⟩).length) = true := by rw [num_seen ha hb, num_text ha hb]; rfl
    have hk := HidP.mk (And.intro hs (And.intro hr hq))
    clear hs hr hq ha hb
    repeat (any_goals (first
      | assumption
      | ((with_reducible show wpAny _ _ ((int_private% "intFromText") _ _ _) _ _ _); refine wp_text16 hk.out.1 hk.out.2.1 hk.out.2.2 ?_)
      | wp_step))
    all_goals first | exact ⟨_, rfl, h⟩ | skip
theorem typeCall_int_2 (a b : Value) : checkTypeCall "int" ⟨[a, b], []⟩ = pure () := by kernel_rfl
theorem newCall_int_2 (a b : Value) : checkBuiltinCall "int.__new__" ⟨[.type "int", a, b], []⟩ = pure () := by kernel_rfl
theorem args_init_3 (a b c : Value) : argsOk "object.__init__" ⟨[a, b, c], []⟩ := by
  first | exact F.args_object_init_3 _ _ _ | (unfold argsOk; kernel_rfl)
theorem call_hex {prog : Program} {w : World} {A : Around} {E : Value → Shared → Prop} {s : Shared} {Q : Value → Shared → Prop} {a b : Nat} {u v : Tok} (ha : a ∈ figsN) (hb : b ∈ figsN) (h : Q (.int ((figV a * 16 + figV b : Nat) : Int) s.toks) { s with toks := s.toks + 1 }) :
    wpAny (model prog w) A (call (.type "int") [.str ⟨#[a, b]⟩ u, .int 16 v]) Q E s :=
  callType_new F.called_int F.newNe_int (typeCall_int_2 _ _) (newCall_int_2 _ _) (fun obj => args_init_3 obj _ _) F.entry_int_new (gives_hex ha hb).meets (show (Made.int ((figV a * 16 + figV b : Nat) : Int)).post _ s from ⟨rfl, h⟩)
end Mine

-- PF
namespace Mine

-- the figures of the law
def figS : Str := Str.ofString "0123456789abcdefABCDEF"
def figAt (i : Int) : Nat := figsN.getD i.toNat 48
theorem figAt_inN : ∀ n : Nat, n < 22 → figAt n ∈ figsN ∧ Txt.item figS n = ⟨#[figAt n]⟩ := by decide +kernel
theorem figAt_in {i : Int} (h0 : 0 ≤ i) (h1 : i < 22) : figAt i ∈ figsN ∧ Txt.item figS i = ⟨#[figAt i]⟩ := by
  have := figAt_inN i.toNat (by omega)
  rwa [show ((i.toNat : Nat) : Int) = i by omega] at this
theorem eqS : Str.ofString "=" = ⟨#[61]⟩ := by decide +kernel
theorem codeText {i j : Int} (hi0 : 0 ≤ i) (hi1 : i < 22) (hj0 : 0 ≤ j) (hj1 : j < 22) : Str.ofString "=" ++ Txt.item figS i ++ Txt.item figS j = ⟨#[61, figAt i, figAt j]⟩ := by
  rw [(figAt_in hi0 hi1).2, (figAt_in hj0 hj1).2, eqS]
  apply Str.ext'
  rw [Str.cps_append, Str.cps_append]
  rfl
theorem pairText {i j : Int} (hi0 : 0 ≤ i) (hi1 : i < 22) (hj0 : 0 ≤ j) (hj1 : j < 22) : Txt.item figS i ++ Txt.item figS j = ⟨#[figAt i, figAt j]⟩ := by
  rw [(figAt_in hi0 hi1).2, (figAt_in hj0 hj1).2]
  apply Str.ext'
  rw [Str.cps_append]
  rfl
theorem codeLow {i j : Int} (hi0 : 0 ≤ i) (hi1 : i < 22) (hj0 : 0 ≤ j) (hj1 : j < 22) : ∀ c ∈ (Str.ofString "=" ++ Txt.item figS i ++ Txt.item figS j).cps.toList, c < 128 := by
  rw [codeText hi0 hi1 hj0 hj1]
  intro c hc
  have h1 := figs_low _ (figAt_in hi0 hi1).1
  have h2 := figs_low _ (figAt_in hj0 hj1).1
  simp only [List.mem_cons, List.not_mem_nil, or_false] at hc
  rcases hc with rfl | rfl | rfl <;> omega
theorem codeLen {i j : Int} (hi0 : 0 ≤ i) (hi1 : i < 22) (hj0 : 0 ≤ j) (hj1 : j < 22) : (Str.ofString "=" ++ Txt.item figS i ++ Txt.item figS j).length ≤ 16777216 := by
  rw [codeText hi0 hi1 hj0 hj1]
  exact Nat.le_of_ble_eq_true rfl
def figW (i j : Int) : Int := ((figV (figAt i) * 16 + figV (figAt j) : Nat) : Int)
theorem fig_vN : ∀ n : Nat, n < 22 → (0 : Int) ≤ figV (figAt n) ∧ figV (figAt n) < 16 ∧ hexw (figAt n : Int) = (figV (figAt n) : Int) ∧ figAt n ≠ 95 ∧ figAt n < 256 := by decide +kernel
theorem fig_v {i : Int} (h0 : 0 ≤ i) (h1 : i < 22) : (0 : Int) ≤ figV (figAt i) ∧ figV (figAt i) < 16 ∧ hexw (figAt i : Int) = (figV (figAt i) : Int) ∧ figAt i ≠ 95 ∧ figAt i < 256 := by
  have := fig_vN i.toNat (by omega)
  rwa [show ((i.toNat : Nat) : Int) = i by omega] at this
theorem figW_in {i j : Int} (hi0 : 0 ≤ i) (hi1 : i < 22) (hj0 : 0 ≤ j) (hj1 : j < 22) : 0 ≤ figW i j ∧ figW i j < 256 := by
  obtain ⟨a1, a2, _, _⟩ := fig_v hi0 hi1
  obtain ⟨b1, b2, _, _⟩ := fig_v hj0 hj1
  unfold figW
  omega
theorem code_bytes {i j : Int} (hi0 : 0 ≤ i) (hi1 : i < 22) (hj0 : 0 ≤ j) (hj1 : j < 22) : asciiA (Str.ofString "=" ++ Txt.item figS i ++ Txt.item figS j) = [61, (figAt i).toUInt8, (figAt j).toUInt8].toArray := by
  rw [codeText hi0 hi1 hj0 hj1]
  rfl
theorem piece_fig {i j : Int} (hi0 : 0 ≤ i) (hi1 : i < 22) (hj0 : 0 ≤ j) (hj1 : j < 22) : ∀ r, unq ((KBw.bInts (asciiA (Str.ofString "=" ++ Txt.item figS i ++ Txt.item figS j))).map blk ++ r) = KBw.bInts (byteArr [figW i j]) ++ unq r := by
  intro r
  obtain ⟨a1, a2, a3, a4, a5⟩ := fig_v hi0 hi1
  obtain ⟨b1, b2, b3, b4, b5⟩ := fig_v hj0 hj1
  rw [code_bytes hi0 hi1 hj0 hj1, KBa.ints_make (in1 (figW_in hi0 hi1 hj0 hj1).1 (figW_in hi0 hi1 hj0 hj1).2)]
  have e1 : ((figAt i).toUInt8.toNat : Int) = figAt i := by
    show ((figAt i % 256 : Nat) : Int) = _
    rw [Nat.mod_eq_of_lt a5]
  have e2 : ((figAt j).toUInt8.toNat : Int) = figAt j := by
    show ((figAt j % 256 : Nat) : Int) = _
    rw [Nat.mod_eq_of_lt b5]
  show unq (blk 61 :: blk ((figAt i).toUInt8.toNat : Int) :: blk ((figAt j).toUInt8.toNat : Int) :: r) = figW i j :: unq r
  rw [e1, e2]
  have f1 : blk (figAt i : Int) = figAt i := by unfold blk; rw [if_neg (by omega)]
  have f2 : blk (figAt j : Int) = figAt j := by unfold blk; rw [if_neg (by omega)]
  rw [f1, f2, show blk 61 = 61 by decide, unq_esc (by omega) (by omega), a3, b3]
  congr 1
  unfold figW
  omega
theorem fig_size {i j : Int} (hi0 : 0 ≤ i) (hi1 : i < 22) (hj0 : 0 ≤ j) (hj1 : j < 22) : (asciiA (Str.ofString "=" ++ Txt.item figS i ++ Txt.item figS j)).size ≤ 3 := by
  rw [code_bytes hi0 hi1 hj0 hj1]
  exact Nat.le_of_ble_eq_true rfl
theorem call_hexS {prog : Program} {w : World} {A : Around} {E : Value → Shared → Prop} {s : Shared} {Q : Value → Shared → Prop} {i j : Int} {u v : Tok} (hi0 : 0 ≤ i) (hi1 : i < 22) (hj0 : 0 ≤ j) (hj1 : j < 22) (h : Q (.int (figW i j) s.toks) { s with toks := s.toks + 1 }) :
    wpAny (model prog w) A (call (.type "int") [.str (Txt.item figS i ++ Txt.item figS j) u, .int 16 v]) Q E s := by
  rw [pairText hi0 hi1 hj0 hj1]
  exact call_hex (figAt_in hi0 hi1).1 (figAt_in hj0 hj1).1 h
end Mine

-- RW
namespace Mine

section
variable {prog : Program} {w : World} {A : Around} {E : Value → Shared → Prop} {s : Shared} {h₀ : Heap} {L : Addr} {m : Str → Option Value}
theorem menu_item {value slice : PySem.Expr} {l : Addr} {k : Int} {u t0 t1 t2 t3 t4 : Tok} {Q : Value → Shared → Prop}
    (hl : s.heap.IsList l #[.bytes [122].toArray t0, .bytes [63].toArray t1, .bytes [255].toArray t2, .bytes [33].toArray t3, .bytes [113].toArray t4]) (h0 : 0 ≤ k) (h5 : k < 5)
    (hs : ∀ k, subscripted slice false (.ref l) (.int k u) = operate [.ref l, .int k u] (getItem (.ref l) (.int k u)))
    (h : ∀ (c : UInt8) t, c ≠ 95 → c ≠ 61 → Q (.bytes [c].toArray t) s) :
    wpAny (model prog w) A (subscriptTail value slice (.ref l) (.int k u)) Q E s := by
  have h3 : k = 0 ∨ k = 1 ∨ k = 2 ∨ k = 3 ∨ k = 4 := by omega
  rcases h3 with rfl | rfl | rfl | rfl | rfl
  · exact tail_any hl.typeIs slot_list_getitem.lookup (wpAny_getItem_list hl (by decide) (by decide) rfl (h 122 t0 (by decide) (by decide))) (hs _)
  · exact tail_any hl.typeIs slot_list_getitem.lookup (wpAny_getItem_list hl (by decide) (by decide) rfl (h 63 t1 (by decide) (by decide))) (hs _)
  · exact tail_any hl.typeIs slot_list_getitem.lookup (wpAny_getItem_list hl (by decide) (by decide) rfl (h 255 t2 (by decide) (by decide))) (hs _)
  · exact tail_any hl.typeIs slot_list_getitem.lookup (wpAny_getItem_list hl (by decide) (by decide) rfl (h 33 t3 (by decide) (by decide))) (hs _)
  · exact tail_any hl.typeIs slot_list_getitem.lookup (wpAny_getItem_list hl (by decide) (by decide) rfl (h 113 t4 (by decide) (by decide))) (hs _)
theorem append_row {D : Addr} {vs : List Value} {bs : List (Array UInt8)} {n i : Nat} {news news' : List (Addr × Obj)} {x : Value} {Q : Value → Shared → Prop} (hB : BytesAre vs bs) (hn : bs.length ≤ i) (hi : i ≤ 1000) (F : Fr h₀ L s.heap m) (N : News h₀ L s.heap news) (U : Upd D (W.listOf vs.toArray n) (W.listOf (vs.toArray.push x) (n + 1)) news news')
    (h : ∀ h', Fr h₀ L h' m → News h₀ L h' news' → Q .none { s with heap := h' }) : wpAny (model prog w) A (call (.builtin "list.append") [.ref D, x]) Q E s := by
  refine append_K F N U h ?_
  have := hB.length
  have h2 : vs.toArray.size = vs.length := by simp
  rw [h2, PySem.sizeLine_eq]
  omega
end
theorem stored_ne {z : Str} (h : rowStored.contains z = false) : z ≠ Str.ofString "code" ∧ z ≠ Str.ofString "way" ∧ z ≠ Str.ofString "figures" ∧ z ≠ Str.ofString "one" ∧ z ≠ Str.ofString "two" ∧ z ≠ Str.ofString "some" := by
  refine ⟨?_, ?_, ?_, ?_, ?_, ?_⟩ <;> (rintro rfl; exact absurd h (by decide +kernel))
theorem sum_sz {bs : List (Array UInt8)} {n : Nat} (h : (catB bs).size ≤ n) (k : n ≤ 16777216) : (bs.map (·.size)).sum ≤ 16777216 := by
  rw [← catB_size]
  exact Nat.le_trans h k
end Mine

-- FB
namespace Mine

/-- a turn's end of the comprehension of draws -/
def DrEl (g : Obj → List (Addr × Obj)) (ca : Addr) (spot sm : Int) (t2 : Tok) (y : Value) (news' : List (Addr × Obj)) : Prop := ∃ v t t1, y = .int v t ∧ 0 ≤ v ∧ v < 256 ∧ news' = g (penO ca spot t1 sm t2)
section
variable {prog : Program} {w : World} {A : Around} {h₀ : Heap} {L : Addr} {m : Str → Option Value} {env : Env} {elt : Expr} {x : Str} {scope : Scope} {cl : List (Str × Addr)} {s : Shared} {Fin : List Value → List (Addr × Obj) → Prop}
theorem dr_rest {n : Nat} {P : Nat → Value → Prop} (g : Obj → List (Addr × Obj)) (ca : Addr) (spot sm : Int) (t2 : Tok)
    (turn : ∀ (i : Nat) v t1 I oI C oC D m₂ ys h tk (E' : Value → Shared → Prop), i < n → P i v → LCg.NsObj oC m₂ → m₂ x = some v → Fr h₀ L h m → News h₀ L h ((I, oI) :: (C, oC) :: (D, LCg.lst ys) :: g (penO ca (spot + (i : Int)) t1 sm t2)) → LCg.Off3 I C D (g (penO ca (spot + (i : Int)) t1 sm t2)) → ((@Ne Nat I C) ∧ (@Ne Nat I D) ∧ (@Ne Nat C D)) →
      wpAny (model prog w) A (eval elt (compEnvC scope cl C env)) (LCg.CompEnd h₀ L m { s with heap := h, toks := tk } I oI C oC D (LCg.lst ys) (fun _ => True) (fun y news' => DrEl g ca (spot + (i : Int) + 1) sm t2 y news')) E' { s with heap := h, toks := tk })
    (fin : ∀ ys ns t1, IntsAre ys ns → KBa.In ns → ns.length = n → Fin ys (g (penO ca (spot + (n : Int)) t1 sm t2))) (t1 : Tok) : LCg.CompRest prog w A h₀ L m env elt x scope cl s (fun _ => True) P Fin n 0 [] (g (penO ca spot t1 sm t2)) := by
  have key : ∀ (j i : Nat) (ys : List Value) (ns : List Int) (t1 : Tok), i + j = n → IntsAre ys ns → KBa.In ns → ns.length = i → LCg.CompRest prog w A h₀ L m env elt x scope cl s (fun _ => True) P Fin j i ys (g (penO ca (spot + (i : Int)) t1 sm t2)) := by
    intro j
    induction j with
    | zero =>
      intro i ys ns t1 hi hy hn hl
      have e : i = n := by omega
      subst e
      exact LCg.CompRest.zero (fin ys ns t1 hy hn hl)
    | succ j ih =>
      intro i ys ns t1 hi hy hn hl
      refine LCg.CompRest.succ ?_
      intro v I oI C oC D m₂ h tk E' hv hC hx F N off ne
      refine wpAny_mono (turn i v t1 I oI C oC D m₂ ys h tk E' (by omega) hv hC hx F N off ne) (fun y s₂ hq => ?_) fun _ _ e => e
      obtain ⟨h', tk', nw, e, F', N', off', hS, v', t', t1', rfl, h0, h1, rfl⟩ := hq
      refine ⟨h', tk', _, e, F', N', off', hS, ?_⟩
      have := ih (i + 1) (ys ++ [.int v' t']) (ns ++ [v']) t1' (by omega) (hy.append (.cons _ _ .nil)) (by
        intro k hk
        rcases List.mem_append.mp hk with hk | hk
        · exact hn k hk
        · rw [List.mem_singleton.mp hk]; exact ⟨h0, h1⟩) (by simp [hl])
      rw [show spot + ((i + 1 : Nat) : Int) = spot + (i : Int) + 1 by omega] at this
      exact this
  have := key n 0 [] [] t1 (by omega) .nil (fun _ h => nomatch h) rfl
  simpa using this
theorem dr_rest2 {n : Nat} {P : Nat → Value → Prop} {g : Obj → List (Addr × Obj)} {p ca : Addr} {spot sm : Int} {t1 t2 : Tok} {news : List (Addr × Obj)} (hU : UpdF p (penO ca spot t1 sm t2) news g)
    (turn : ∀ (i : Nat) v t1 I oI C oC D m₂ ys h tk (E' : Value → Shared → Prop), i < n → P i v → LCg.NsObj oC m₂ → m₂ x = some v → Fr h₀ L h m → News h₀ L h ((I, oI) :: (C, oC) :: (D, LCg.lst ys) :: g (penO ca (spot + (i : Int)) t1 sm t2)) → LCg.Off3 I C D (g (penO ca (spot + (i : Int)) t1 sm t2)) → ((@Ne Nat I C) ∧ (@Ne Nat I D) ∧ (@Ne Nat C D)) →
      wpAny (model prog w) A (eval elt (compEnvC scope cl C env)) (LCg.CompEnd h₀ L m { s with heap := h, toks := tk } I oI C oC D (LCg.lst ys) (fun _ => True) (fun y news' => DrEl g ca (spot + (i : Int) + 1) sm t2 y news')) E' { s with heap := h, toks := tk })
    (fin : ∀ ys ns t1, IntsAre ys ns → KBa.In ns → ns.length = n → Fin ys (g (penO ca (spot + (n : Int)) t1 sm t2))) : LCg.CompRest prog w A h₀ L m env elt x scope cl s (fun _ => True) P Fin n 0 [] news := by
  obtain ⟨pre, post, e1, e2, _, _⟩ := hU.split
  have e : news = g (penO ca spot t1 sm t2) := by rw [e1, e2]
  rw [e]
  exact dr_rest g ca spot sm t2 turn fin t1
theorem dr_end {g : Obj → List (Addr × Obj)} {ca : Addr} {spot sm : Int} {t1 t2 : Tok} {s₁ : Shared} {I C D : Addr} {oI oC oD : Obj} {h' : Heap} {tk : Nat} {v : Int} {t : Tok}
    (F : Fr h₀ L h' m) (N : News h₀ L h' ((I, oI) :: (C, oC) :: (D, oD) :: g (penO ca spot t1 sm t2))) (off : LCg.Off3 I C D (g (penO ca spot t1 sm t2))) (h0 : 0 ≤ v) (h1 : v < 256) :
    LCg.CompEnd h₀ L m s₁ I oI C oC D oD (fun _ => True) (fun y news' => DrEl g ca spot sm t2 y news') (.int v t) { s₁ with heap := h', toks := tk } :=
  ⟨h', tk, _, rfl, F, N, off, trivial, v, t, t1, rfl, h0, h1, rfl⟩
end

section
variable {prog : Program} {w : World} {A : Around} {E : Value → Shared → Prop} {s : Shared} {h₀ : Heap} {L : Addr} {m : Str → Option Value} {env : Env}
/-- the source: bytes, each element a text by a function -/
theorem srcB_strs {elt : Expr} {x : Str} {scope : Scope} {cl : List (Str × Addr)} {Fin : Shared → List Value → List (Addr × Obj) → Prop} {b : Array UInt8} {t : Tok} {news : List (Addr × Obj)} (g : Int → Str)
    (hh : A.handled = none) (F : Fr h₀ L s.heap m) (N : News h₀ L s.heap news) (hz : b.size ≤ sizeLine)
    (turn : ∀ k t I oI C oC D m₂ ys h tk (E' : Value → Shared → Prop), 0 ≤ k → k < 256 → LCg.NsObj oC m₂ → m₂ x = some (.int k t) → Fr h₀ L h m → News h₀ L h ((I, oI) :: (C, oC) :: (D, LCg.lst ys) :: news) → LCg.Off3 I C D news → ((@Ne Nat I C) ∧ (@Ne Nat I D) ∧ (@Ne Nat C D)) → KPfMark →
      wpAny (model prog w) A (eval elt (compEnvC scope cl C env)) (LCg.CompEnd h₀ L m { s with heap := h, toks := tk } I oI C oC D (LCg.lst ys) (fun _ => True) (fun y news' => KCtEl news (g k) y news')) E' { s with heap := h, toks := tk })
    (fin : ∀ (h : Heap) ys, CarriedAll ys ((KBw.bInts b).map fun k => PyData.str (g k)) → Fin { s with heap := h } ys news) :
    SrcB prog w A h₀ L m env elt x scope cl Fin (.bytes b t) s := by
  refine ⟨b, t, news, rfl, hh, F, N, hz, fun h => kct_rest (ks := KBw.bInts b) g (KBw.ints_length b) (fun i v _ hv => bytesAt_int hv) ?_ (fun ys hy _ => fin _ ys hy)⟩
  intro k t I oI C oC D m₂ ys h tk E' hk hC hx F N off ne mk
  exact turn k t I oI C oC D m₂ ys h tk E' (KBw.ints_in hk).1 (KBw.ints_in hk).2 hC hx F N off ne mk
end

theorem range_in : KBa.In (rangeKs 0 256) := by
  intro n hn
  have := mem_rangeKs hn
  omega
theorem piece_hi {k : Int} (h : k < 0 + ((256 : Nat) : Int)) : k < 256 := by omega
def Stopped (P : Prop) : Prop := P
theorem stopper {P : Prop} (h : Stopped P) : P := h

local macro_rules | `(tactic| walk_at "call ref") => `(tactic| (k_here; k_dflt ((refine' draw_use ?k1 ?k2 ?k3 ?k4 ?k5 ?kK ?kU ?kc ?kI ?s0 ?s1 ?m0 ?m1 ?l ?kd ?ku ?_; (case k1 => k_asm); (case k2 => k_asm); (case k3 => k_asm); (case k4 => k_asm); (case k5 => k_asm); (case kK => exact rfl); (case kU => k_updF); (case kc => k_mem); (case kI => assumption); (case s0 => omega); (case s1 => omega); (case m0 => decide); (case m1 => decide); (case l => (simp only [List.length_map, List.length_take]; omega)); (case kd => ktr_room); (case ku => ktr_units))); intro v9 t9 t19 h9 tk9 hv0 hv1 F9 N9; (try dsimp only at N9); (try k_fold)))
local macro_rules | `(tactic| walk_at "CompSrc") => `(tactic| (k_here; (rename IsRange _ _ _ _ _ _ _ _ => rgX); (with_reducible show LCg.CompSrc _ _ _ _ _ _ _ (PySem.Expr.Call (PySem.Expr.Name (PySem.Str.ofString "_law_draw") _) _ _ _) _ _ _ _ _ _); k_dflt ((refine' LCg.CompSrc.range ?h ?F ?N rgX ?sm (rangeSize_nat _ _) ?z ?r; (case h => rfl); (case F => k_asm); (case N => k_asm); (case sm => exact small_one (by omega) (by omega) (by omega) (by omega)); (case z => (rw [PySem.sizeLine_eq]; omega)); (case' r => (intro gH; (refine' dr_rest2 ?U ?t ?f; (case U => k_updF); (case' t => (intro i9 v9 t19 I' oI' C' oC' D' m' ys' h' tk' E' hi9 hv9 hC' hx' F' N' off' ne'; (try dsimp only at N'); (try dsimp only at off'); (try (simp only [LCg.Off3, and_true] at off')); (try k_fold))); (case' f => (intro ys' ns' t19 hys' hns' hnl'; (try dsimp only); (try k_fold))))))))))
local macro_rules | `(tactic| walk_at "CompEnd") => `(tactic| ((refine' dr_end (by assumption) ?N ?o ?a ?b; (case N => assumption); (case o => (simp only [LCg.Off3, and_true]; assumption)); (case a => assumption); (case b => assumption))))
local macro_rules | `(tactic| walk_at "call ref") => `(tactic| (k_here; k_dflt (refine' Claim.use (word_q_encoded _ _ _ _ _ _ _) ?k1 ?k2 ?k3 ?k4 ?k5 ?kK ?kp ?kd ?ku ?_; (case k1 => k_asm); (case k2 => k_asm); (case k3 => k_asm); (case k4 => k_asm); (case k5 => k_asm); (case kK => first | exact rfl | assumption); (case kp => ((try simp only [byteArr_size, rangeKs_length]); omega)); (case kd => ktr_room); (case ku => ktr_units)); intro t9 h9 tk9 F9 N9; (try dsimp only); (try k_fold)))
local macro_rules | `(tactic| walk_at "call ref") => `(tactic| (k_here; k_dflt (refine' Claim.use (law_piece _ _ _ _ _ _ _) ?k1 ?k2 ?k3 ?k4 ?k5 ?kK ?kp ?kd ?ku ?_; (case k1 => k_asm); (case k2 => k_asm); (case k3 => k_asm); (case k4 => k_asm); (case k5 => k_asm); (case kK => first | exact rfl | assumption); (case kp => exact ⟨by assumption, by assumption⟩); (case kd => ktr_room); (case ku => ktr_units)); intro t9 h9 tk9 F9 N9; (try dsimp only); (try k_fold)))
local macro_rules | `(tactic| walk_at "eval ListComp") => `(tactic| (k_here; (with_reducible show wpAny _ _ (eval (PySem.Expr.ListComp (PySem.Expr.Call (PySem.Expr.Name (PySem.Str.ofString "_law_piece") _) _ _ _) [PySem.Comprehension.mk _ (PySem.Expr.Name _ _) _ _] _ _) _) _ _ _); (k_dflt (refine' ListComp_B ?F0 ?a ?b ?c ?d ?e ?_; (case F0 => k_asm); (case a => with_unfolding_all rfl); (case b => decide); (case c => with_unfolding_all rfl); (case d => decide); (case e => with_unfolding_all rfl)))))
local macro_rules | `(tactic| walk_at "SrcB") => `(tactic| (k_here; (k_dflt (refine' srcB_strs pieceS ?h ?F ?N ?z ?t ?f; (case h => rfl); (case F => k_asm); (case N => k_asm); (case z => (rw [PySem.sizeLine_eq, byteArr_size]; omega)); (case' t => (intro k' t' I' oI' C' oC' D' m' ys' h' tk' E' hlo' hhi' hC' hx' F' N' off' ne' hMark'; (try (simp only [LCg.Off3, and_true] at off')); (try k_fold))); (case' f => (intro s2 ys' hys'; (try k_fold)))))))
local macro_rules | `(tactic| walk_at "KCtEl") => `(tactic| ((refine kct_el ?kce (by with_unfolding_all rfl) (by with_unfolding_all rfl)); (case kce => rfl)))
theorem ne_same {prog : Program} {w : World} {A : Around} {E : Value → Shared → Prop} {s : Shared} {b c : Array UInt8} {t u : Tok} {Q : Value → Shared → Prop} (e : b = c) (h : Q (.bool false) s) : wpAny (model prog w) A (compareOp .NotEq (.bytes b t) (.bytes c u)) Q E s := by
  refine ne_bytes ?_
  subst e
  simpa using h
theorem eq_same {prog : Program} {w : World} {A : Around} {E : Value → Shared → Prop} {s : Shared} {b c : Array UInt8} {t u : Tok} {Q : Value → Shared → Prop} (e : b = c) (h : Q (.bool true) s) : wpAny (model prog w) A (compareOp .Eq (.bytes b t) (.bytes c u)) Q E s := by
  refine eq_bytes ?_
  subst e
  simpa using h
local macro_rules | `(tactic| walk_at "call builtin:str.join") => `(tactic| (k_here; (with_reducible show wpAny _ _ (call (Value.builtin "str.join") [Value.str _ _, Value.ref _]) _ _ _); k_dflt ((refine' join_list ?l ?c ?z ?_; (case l => exact News.isList (by k_asm) (by k_mem)); (case c => exact CarriedAll.strsOf (by assumption)); (case z => exact Nat.le_trans (piece_lens _) (by (try simp only [KBw.ints_length, byteArr_size, rangeKs_length]); omega)))); intro t9 k9))
local macro_rules | `(tactic| walk_at "getMethod str") => `(tactic| (k_here; with_reducible refine method_encode ?_))
local macro_rules | `(tactic| walk_at "call builtin:str.encode") => `(tactic| (k_here; k_dflt ((refine' call_encode ?l ?z ?_; (case l => first | exact join_low (bInts_in _) | exact join_low range_in); (case z => exact Nat.le_trans (join_len _) (by (try simp only [KBw.ints_length, byteArr_size, rangeKs_length]); omega)))); intro t9 k9))
local macro_rules | `(tactic| walk_at "compareOp NotEq bytes bytes") => `(tactic| (k_here; k_dflt ((refine' ne_same ?e ?_); (case e => first | exact enc_same _ | exact dec_enc _ | exact enc_same_of range_in))))
local macro_rules | `(tactic| walk_at "compareOp Eq bytes bytes") => `(tactic| (k_here; k_dflt ((refine' eq_same ?e ?_); (case e => first | exact dec_last | exact decP_end (by assumption) | exact decP_end2 (by assumption)))))
local macro_rules | `(tactic| walk_at "call ref") => `(tactic| (k_here; k_dflt (refine' Claim.use (word_q_decoded _ _ _ _ _ _ _) ?k1 ?k2 ?k3 ?k4 ?k5 ?kK ?kp ?kd ?ku ?_; (case k1 => k_asm); (case k2 => k_asm); (case k3 => k_asm); (case k4 => k_asm); (case k5 => k_asm); (case kK => first | exact rfl | assumption); (case kp => first | (rw [catB_size]; exact Nat.le_trans (enc_sum _) (by (simp only [KBw.ints_length, byteArr_size]); omega)) | omega); (case kd => ktr_room); (case ku => ktr_units)); intro t9 h9 tk9 F9 N9; (try dsimp only); (try k_fold)))
local macro_rules | `(tactic| walk_at "call type:bytes") => `(tactic| (k_here; (rename IsRange _ _ _ _ _ _ _ _ => rgX); (with_reducible show wpAny _ _ (call (Value.type "bytes") [Value.ref _]) _ _ _); k_dflt (refine' bytes_range (n := 256) ?F ?N ?h rgX ?sm ?n ?a ?b ?_; (case F => k_asm); (case N => k_asm); (case h => rfl); (case sm => decide); (case n => decide); (case a => decide); (case b => decide)); intro h9 t9 k9 F9 N9))
local macro_rules | `(tactic| walk_at "eval ListComp") => `(tactic| (k_here; (with_reducible show wpAny _ _ (eval (PySem.Expr.ListComp (PySem.Expr.Call (PySem.Expr.Name (PySem.Str.ofString "_law_piece") _) _ _ _) [PySem.Comprehension.mk _ (PySem.Expr.Call _ _ _ _) _ _] _ _) _) _ _ _); (k_dflt (refine' LCg.ListComp_U ?F0 ?a ?b ?c ?d ?e ?_; (case F0 => k_asm); (case a => with_unfolding_all rfl); (case b => decide); (case c => with_unfolding_all rfl); (case d => decide); (case e => with_unfolding_all rfl)))))
local macro_rules | `(tactic| walk_at "CompSrc") => `(tactic| (k_here; (rename IsRange _ _ _ _ _ _ _ _ => rgX); (with_reducible show LCg.CompSrc _ _ _ _ _ _ _ (PySem.Expr.Call (PySem.Expr.Name (PySem.Str.ofString "_law_piece") _) _ _ _) _ _ _ _ _ _); k_dflt ((refine' LCg.CompSrc.range (n := 256) ?h ?F ?N rgX ?sm ?n ?z ?r7; (case h => rfl); (case F => k_asm); (case N => k_asm); (case sm => decide); (case n => decide); (case z => (rw [PySem.sizeLine_eq]; decide)); (case' r7 => (intro gH; (refine' kct_range pieceS ?t7 ?f7; (case' t7 => (intro k' t' I' oI' C' oC' D' m' ys' h' tk' E' hlo' hhi0 hC' hx' F' N' off' ne' hMark'; (have hhi' := piece_hi hhi0); (try (simp only [LCg.Off3, and_true] at off')); (try k_fold))); (case' f7 => (unfold KPfDone; intro ys' hys' hyl'; (try k_fold))))))))))

local macro_rules | `(tactic| walk_at "exec For Name Call cons nil") => `(tactic| (k_here; (rename News _ _ _ _ => nT); (replace nT := dropTup nT)))
local macro_rules | `(tactic| walk_at "pyIter ref") => `(tactic| (k_here; (rename IsRange _ _ _ _ _ _ _ _ => rgX); (with_reducible show wpAny _ _ (pyIter (Value.ref _)) (fun it s₂ => LoopAtV _ _ _ _ _ _ _ _ _ it s₂) _ _); k_dflt ((refine' row_loop ?h rgX ?sm (rangeSize_nat _ _) ?F ?N ?l ?p ?c ?cd ?cl ?du ?s0 ?s1 ?t8 ?d8; (case h => rfl); (case F => k_asm); (case N => k_asm); (case sm => exact small_one (by omega) (by omega) (by omega) (by omega)); (case l => k_mem); (case p => k_mem); (case c => k_mem); (case cd => assumption); (case cl => k_mem); (case du => with_unfolding_all exact rfl); (case s0 => omega); (case s1 => omega); (case' t8 => (intro vs bs e spot t1 td d i k t u h tk own hi hoff hmk hB hP F9 N9; (have hP2 := RowP.len hP); (have hP3 := RowP.cat hP); (have hP4 := RowP.due hP); (have hP5 := RowP.lo hP); (have hP6 := RowP.hi hP); (try k_fold))); (case' d8 => (intro vs bs e spot t1 td d u h tk hB hP F9 N9; (have hP1 := RowP.dec hP); (have hP2 := RowP.len hP); (have hP3 := RowP.cat hP); (have hP4 := RowP.due hP); (try k_fold)))))))
local macro_rules | `(tactic| walk_at "RowPost") => `(tactic| (dsimp only [RowPost]))

local macro_rules | `(tactic| walk_at "call builtin:str.encode") => `(tactic| (k_here; k_dflt ((refine' call_encode ?l ?z ?_; (case l => exact codeLow (by assumption) (by assumption) (by assumption) (by assumption)); (case z => exact codeLen (by assumption) (by assumption) (by assumption) (by assumption)))); intro t9 k9))
local macro_rules | `(tactic| walk_at "call type:int") => `(tactic| (k_here; (with_reducible show wpAny _ _ (call (Value.type "int") [Value.str _ _, Value.int _ _]) _ _ _); k_dflt ((refine' call_hexS (by assumption) (by assumption) (by assumption) (by assumption) ?_))))
local macro_rules | `(tactic| walk_at "call type:bytes") => `(tactic| (k_here; (with_reducible show wpAny _ _ (call (Value.type "bytes") [Value.ref _]) _ _ _); k_dflt ((refine' KBa.make_K ?kbaF ?kbaN ?kbah ?kbal ?kbai ?kbar ?kban ?_; (case kbaF => k_asm); (case kbaN => k_asm); (case kbah => rfl); (case kbal => kba_isList); (case kbai => (repeat constructor)); (case kbar => (exact in1 (figW_in (by assumption) (by assumption) (by assumption) (by assumption)).1 (figW_in (by assumption) (by assumption) (by assumption) (by assumption)).2)); (case kban => exact Nat.le_of_ble_eq_true rfl))); intro _ _ _ F' N' kbaIn))
local macro_rules | `(tactic| walk_at "binaryOp Add bytes bytes") => `(tactic| (k_here; k_dflt ((refine' KBy.add_bytes ?z ?_; (case z => ((try simp only [byteArr_size, List.size_toArray, List.length_cons, List.length_nil]); omega)))); intro _ _))
local macro_rules | `(tactic| walk_at "call builtin:list.append") => `(tactic| (k_here; (try (rename News _ _ _ ((_, ({ cls := .type "tuple", data := .seq _ _ } : Obj)) :: _) => nT; replace nT := dropTup nT)); k_dflt ((refine' append_row (by assumption) (RowP.len (by assumption)) ?hi ?F ?N ?U ?_; (case hi => omega); (case F => k_asm); (case N => k_asm); (case U => k_upd))); intro h9 F9 N9))
local macro_rules | `(tactic| walk_at "subscriptTail") => `(tactic| (k_here; (with_reducible show wpAny _ _ (subscriptTail (PySem.Expr.List _ _) _ (Value.ref _) (Value.int _ _)) _ _ _); k_dflt ((refine' menu_item ?l ?a ?b ?hs ?_; (case l => kba_isList); (case a => first | omega | exact Int.fmod_nonneg_of_pos _ (by decide) | exact Int.emod_nonneg _ (by decide)); (case b => first | omega | exact Int.fmod_lt_of_pos _ (by decide) | exact Int.emod_lt_of_pos _ (by decide)); (case hs => (intro k; with_unfolding_all exact rfl)))); intro c9 t9 hc95 hc61))
local macro_rules | `(tactic| walk_at "RowEnd") => `(tactic| ((refine' row_end ?F ?N ?hl ?hp ?hc ?hcl ?ho ?hB ?hd ?hz ?hP; (case F => assumption); (case N => assumption); (case hB => assumption); (case hl => k_mem); (case hp => k_mem); (case hc => k_mem); (case hcl => k_mem); (case ho => (intro q9 hq9; (repeat (first | exact hq9 | refine List.Mem.tail _ ?_)))); (case hd => with_unfolding_all exact rfl); (case hz => (intro z h1 h2 h3; (obtain ⟨a1, a2, a3, a4, a5, a6⟩ := stored_ne h3); simp only [kstB, h1, h2, h3, a1, a2, a3, a4, a5, a6, if_false, if_true, Bool.false_eq_true, ↓reduceIte])); (case hP => first
  | exact row_step (by assumption) piece_us (Nat.le_of_ble_eq_true rfl) (Nat.le_of_ble_eq_true rfl) (by omega) (by omega)
  | exact row_step (by assumption) piece_eqg (Nat.le_of_ble_eq_true rfl) (Nat.le_of_ble_eq_true rfl) (by omega) (by omega)
  | exact row_step (by assumption) (piece_lit _ (by assumption) (by assumption)) (Nat.le_of_ble_eq_true rfl) (Nat.le_of_ble_eq_true rfl) (by omega) (by omega)
  | exact row_step (by assumption) (piece_fig (by assumption) (by assumption) (by assumption) (by assumption)) (fig_size (by assumption) (by assumption) (by assumption) (by assumption)) (by rw [byteArr_size]; exact Nat.le_of_ble_eq_true rfl) (by omega) (by omega)))))
local macro_rules | `(tactic| walk_at "getMethod bytes") => `(tactic| (k_here; (with_reducible refine method_join ?_)))
local macro_rules | `(tactic| walk_at "call builtin:bytes.join") => `(tactic| (k_here; k_dflt ((refine' call_join ?l ?b ?z ?_; (case l => kba_isList); (case b => assumption); (case z => exact sum_sz (by assumption) (by omega)))); intro t9 k9))
local macro_rules | `(tactic| walk_at "call ref") => `(tactic| (k_here; k_dflt ((refine' Claim.use (word_q_decoded _ _ _ _ _ _ _) ?k1 ?k2 ?k3 ?k4 ?k5 ?kK ?kp ?kd ?ku ?_; (case k1 => k_asm); (case k2 => k_asm); (case k3 => k_asm); (case k4 => k_asm); (case k5 => k_asm); (case kK => first | exact rfl | assumption); (case kp => ((try simp only [Array.size_append, List.size_toArray, List.length_cons, List.length_nil]); omega)); (case kd => ktr_room); (case ku => ktr_units))); intro t9 h9 tk9 F9 N9; (try dsimp only); (try k_fold)))
theorem law_holds : PySem.Challenge.rw_no0346_01.Holds := hd0346 (by w_top off; w_strict (k_go0; (all_goals try k_fold); k_steps))
end Mine

theorem PySem.Challenge.cw_no0346_01_holds : PySem.Challenge.rw_no0346_01.Holds :=
  Mine.law_holds
