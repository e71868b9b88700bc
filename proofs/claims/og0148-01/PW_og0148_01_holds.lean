import PyProof.Rows.All
import Wide.All
import OpenK.AllK
import Wide.FinOn
import PySem.Challenge.RW_og0148_01
set_option Elab.async false

section
open PySem PySem.W PyProof.Rows
set_option maxRecDepth 100000
set_option maxHeartbeats 8000000
namespace Mine
open_top hd for PySem.Challenge.rw_og0148_01
end Mine
end

theorem Mine.calm : True := by
  w_top off
  trivial

section
open PySem PySem.W PyProof.Rows
set_option maxRecDepth 100000
set_option maxHeartbeats 8000000
namespace Mine

abbrev Led := List (Addr × Obj)

/-- what a call hands back: the frame as it was, the ledger with new entries apart from all that stood -/
abbrev Ret (h₀ : Heap) (L : Addr) (m : Str → Option Value) (news : Led) (s : Shared) (Q : Value → Shared → Prop) (Post : Led → Value → Prop) : Prop :=
  ∀ (r : Value) (tl : Led) (h' : Heap) (tk' : Nat), Fr h₀ L h' m → News h₀ L h' (tl ++ news) → (∀ q ∈ news, ∀ p ∈ tl, q.1 ≠ p.1) → Post (tl ++ news) r → Q r { s with heap := h', toks := tk' }

/-- a def's contract, for one list of arguments over one ledger -/
def Does (w : World) (p : Program) (loose : List Str) (mean : ExcName → Option Value) (mg mb : Str → Option Value) (f : Addr) (k : Nat) (news : Led) (vs : List Value) (Post : Led → Value → Prop) : Prop :=
  ∀ (dp un : Nat) (gd : Option (List Code)) (cn : Str) (cs : Scope) (a : Addr) (ccd : Value) (cl : List (Str × Addr)) (outer : List Env) (A₀ : Around) (base h₀ : Heap) (L : Addr) (m : Str → Option Value) (s : Shared) (Q E : Value → Shared → Prop),
    Below A₀ base outer h₀ → Fr h₀ L s.heap m → (hd.heap_39 w.params).In h₀ → News h₀ L s.heap news → Top p loose mean mg mb h₀ → cs.kind = .function → dp + k < recursionLimit → un + 8 * k < cLine →
    Ret h₀ L m news s Q Post →
    wpAny (model PySem.Challenge.rw_og0148_01.prog w) (ktrTop dp un gd cn cs L a ccd cl outer) (call (.ref f) vs) Q E s

/-- a Decimal of the ledger: t tenths -/
def IsDec (P : Params) (news : Led) (v : Value) (t : Int) : Prop :=
  ∃ (x d : Addr) (k1 k2 : Tok) (top : Int) (t1 : Tok) (pl : Int) (t2 : Tok), v = .ref x ∧ (x, instObj 155 d) ∈ news ∧
    (d, dictOf [⟨PyData.keyHash P (Str.ofString "top"), .str (Str.ofString "top") k1, .int top t1⟩, ⟨PyData.keyHash P (Str.ofString "places"), .str (Str.ofString "places") k2, .int pl t2⟩] 2) ∈ news ∧
    ((pl = 0 ∧ t = 10 * top) ∨ (pl = 1 ∧ t = top))

theorem IsDec.mono {P : Params} {news news' : Led} {v : Value} {t : Int} (h : IsDec P news v t) (hs : ∀ p ∈ news, p ∈ news') : IsDec P news' v t := by
  obtain ⟨x, d, k1, k2, top, t1, pl, t2, e, h1, h2, h3⟩ := h
  exact ⟨x, d, k1, k2, top, t1, pl, t2, e, hs _ h1, hs _ h2, h3⟩
end Mine
namespace Mine
theorem does_use {w : World} {p : Program} {loose : List Str} {mean : ExcName → Option Value} {mg mb : Str → Option Value} {f : Addr} {k : Nat} {news : Led} {vs : List Value} {Post : Led → Value → Prop}
    {dp un : Nat} {gd : Option (List Code)} {cn : Str} {cs : Scope} {a : Addr} {ccd : Value} {cl : List (Str × Addr)} {outer : List Env} {A₀ : Around} {base h₀ : Heap} {L : Addr} {m : Str → Option Value} {s : Shared} {Q E : Value → Shared → Prop}
    (B : Below A₀ base outer h₀) (F : Fr h₀ L s.heap m) (X : (hd.heap_39 w.params).In h₀) (N : News h₀ L s.heap news) (T : Top p loose mean mg mb h₀) (hk : cs.kind = .function)
    (C : Does w p loose mean mg mb f k news vs Post) (hd : dp + k < recursionLimit) (hu : un + 8 * k < cLine) (ret : Ret h₀ L m news s Q Post) :
    wpAny (model PySem.Challenge.rw_og0148_01.prog w) (ktrTop dp un gd cn cs L a ccd cl outer) (call (.ref f) vs) Q E s := C _ _ _ _ _ _ _ _ _ _ _ _ _ _ _ _ _ B F X N T hk hd hu ret

theorem accDown_one {t : Int} : accDown (fun _ x => x.fdiv 10) 1 t 0 = t.fdiv 10 := by
  have := accDown_succ (g := fun (_ : Int) (x : Int) => x.fdiv 10) (k₀ := 1) (k := 1) (x₀ := t) (by omega)
  rw [accDown_start] at this
  exact this

theorem apart_app {news tl tl' : Led} (h1 : ∀ q ∈ news, ∀ p ∈ tl, q.1 ≠ p.1) (h2 : ∀ q ∈ tl ++ news, ∀ p ∈ tl', q.1 ≠ p.1) : ∀ q ∈ news, ∀ p ∈ tl' ++ tl, q.1 ≠ p.1 := by
  intro q hq p hp
  rcases List.mem_append.mp hp with hp | hp
  · exact h2 q (List.mem_append.mpr (.inr hq)) p hp
  · exact h1 q hq p hp

theorem ret1 {h₀ : Heap} {L : Addr} {m : Str → Option Value} {news : Led} {s : Shared} {Q : Value → Shared → Prop} {Post : Led → Value → Prop} {r : Value} {tl : Led} {h' : Heap} {tk' : Nat}
    (hret : Ret h₀ L m news s Q Post) (F : Fr h₀ L h' m) (N : News h₀ L h' (tl ++ news)) (l : ∀ q ∈ news, ∀ p ∈ tl, q.1 ≠ p.1) (P : Post (tl ++ news) r) : Q r { s with heap := h', toks := tk' } := hret r tl h' tk' F N l P

theorem ret2 {h₀ : Heap} {L : Addr} {m : Str → Option Value} {news : Led} {s : Shared} {Q : Value → Shared → Prop} {Post : Led → Value → Prop} {r : Value} {tl tl' : Led} {h' : Heap} {tk' : Nat}
    (hret : Ret h₀ L m news s Q Post) (F : Fr h₀ L h' m) (N : News h₀ L h' (tl' ++ (tl ++ news))) (l : ∀ q ∈ news, ∀ p ∈ tl, q.1 ≠ p.1) (l' : ∀ q ∈ tl ++ news, ∀ p ∈ tl', q.1 ≠ p.1) (P : Post (tl' ++ (tl ++ news)) r) : Q r { s with heap := h', toks := tk' } := by
  have e := (List.append_assoc tl' tl news).symm
  rw [e] at N P
  exact hret r (tl' ++ tl) h' tk' F N (apart_app l l') P

/-- what stands at one address stands there once -/
theorem News.same {h₀ h : Heap} {L : Addr} {nx : Led} (N : News h₀ L h nx) {p q : Addr × Obj} (hp : p ∈ nx) (hq : q ∈ nx) (e : p.1 = q.1) : p = q := by
  have h1 := (N p hp).1
  have h2 := (N q hq).1
  rw [e, h2] at h1
  exact Prod.ext e (Option.some.inj h1).symm

theorem retS {h₀ : Heap} {L : Addr} {m : Str → Option Value} {news nx : Led} {s : Shared} {Q : Value → Shared → Prop} {Post : Led → Value → Prop} {r : Value} {h' : Heap} {tk' : Nat}
    (hret : Ret h₀ L m news s Q Post) (F : Fr h₀ L h' m) (N : News h₀ L h' nx) (G : ∀ p ∈ news, p ∈ nx) (P : ∀ nx', (∀ p ∈ nx, p ∈ nx') → Post nx' r) : Q r { s with heap := h', toks := tk' } := by
  have hs : ∀ p ∈ nx.filter (fun p => news.all fun q => decide (q.1 ≠ p.1)) ++ news, p ∈ nx := fun p hp => (List.mem_append.mp hp).elim (fun h => (List.mem_filter.mp h).1) (G p)
  refine hret r (nx.filter fun p => news.all fun q => decide (q.1 ≠ p.1)) h' tk' F (fun p hp => N p (hs p hp)) (fun q hq p hp => ?_) (P _ fun p hp => ?_)
  · have := (List.mem_filter.mp hp).2
    simpa using List.all_eq_true.mp this q hq
  · by_cases hc : ∀ q ∈ news, q.1 ≠ p.1
    · exact List.mem_append.mpr (.inl (List.mem_filter.mpr ⟨hp, by simpa using hc⟩))
    · obtain ⟨q, hc⟩ := Classical.not_forall.mp hc
      obtain ⟨hq, hc⟩ := Classical.not_imp.mp hc
      have e := Classical.not_not.mp hc
      exact List.mem_append.mpr (.inr (News.same N (G q hq) hp e ▸ hq))
end Mine
end

section
open PySem PySem.W PyProof.Rows
set_option maxRecDepth 100000
set_option maxHeartbeats 8000000
namespace Mine
local macro_rules | `(tactic| k_room) => `(tactic| ktr_room)
theorem words_C1_1 : True := by
  k_with_none
  trivial
section
variable {w : World} {p : Program} {loose : List Str} {mean : ExcName → Option Value} {mg mb : Str → Option Value}

theorem mk_end {t pl k T : Int} (h : (pl = 0 ∧ T = 10 * t) ∨ (pl = 1 ∧ T = t)) (h1 : k ≤ pl) (h2 : min pl 0 ≤ k)
    (hl : ∀ j : Int, k < j → j ≤ pl → (if 0 < j then if ((accDown (fun k x => x.fdiv 10) pl t j).fmod 10 == 0) = true then true else false else false) = true) :
    (k = 0 ∧ T = 10 * accDown (fun _ x => x.fdiv 10) pl t k) ∨ (k = 1 ∧ T = accDown (fun _ x => x.fdiv 10) pl t k) := by
  rcases h with ⟨rfl, h⟩ | ⟨rfl, h⟩
  · left
    obtain rfl : k = 0 := by omega
    exact ⟨rfl, by rw [accDown_start]; exact h⟩
  · rcases (show k = 0 ∨ k = 1 by omega) with rfl | rfl
    · left
      have := hl 1 (by omega) (by omega)
      rw [accDown_start] at this
      refine ⟨rfl, ?_⟩
      rw [accDown_one]
      simp at this
      rw [Int.fmod_eq_emod_of_nonneg _ (by omega)] at this
      rw [Int.fdiv_eq_ediv_of_nonneg _ (by omega)]
      omega
    · right
      exact ⟨rfl, by rw [accDown_start]; exact h⟩

theorem mkN {news : Led} {t pl T : Int} {tk tk2 : Tok} (h : (pl = 0 ∧ T = 10 * t) ∨ (pl = 1 ∧ T = t)) : Does w p loose mean mg mb 155 3 news [.int t tk, .int pl tk2] (fun nx r => ∃ tl, nx = tl ++ news ∧ IsDec w.params tl r T) := by
  unfold Does
  k_fill
  intro dp un gd cn cs a ccd cl outer A₀ base h₀ L m s Q E B F X N T hk hd hu hret
  k_dflt (refine' call_cls ?k1 ?k2 ?k3 ?k4 ?k5 ?k6 ?_; (case k1 => k_asm); (case k2 => k_asm); (case k3 => k_asm); (case k4 => k_is); (case k5 => k_is); (case k6 => k_is); k_whole; intro x' d' h' F' N' l1 l2; (try k_sweep); (try k_lt2 l2); ktr_enter)
  k_steps
  refine hret _ [_, _] _ _ (by k_asm) (by k_asm) ?_ ?_
  · intro q hq p' hp
    rcases List.mem_cons.mp hp with rfl | hp
    · exact Nat.ne_of_lt (Nat.lt_trans (l1 q hq) l2)
    · rcases List.mem_cons.mp hp with rfl | hp
      · exact Nat.ne_of_lt (l1 q hq)
      · cases hp
  · exact ⟨_, rfl, x', d', _, _, _, _, _, _, rfl, .head _, .tail _ (.head _), mk_end h (by assumption) (by assumption) (by assumption)⟩

theorem mkD {news : Led} {t pl T : Int} {tk tk2 : Tok} (h : (pl = 0 ∧ T = 10 * t) ∨ (pl = 1 ∧ T = t)) : Does w p loose mean mg mb 155 3 news [.int t tk, .int pl tk2] (fun nx r => IsDec w.params nx r T) := by
  intro dp un gd cn cs a ccd cl outer A₀ base h₀ L m s Q E B F X N T hk hd hu hret
  refine mkN h dp un gd cn cs a ccd cl outer A₀ base h₀ L m s Q E B F X N T hk hd hu fun r tl h' tk' F' N' l' P' => hret r tl h' tk' F' N' l' ?_
  obtain ⟨tl', e, P'⟩ := P'
  exact P'.mono fun p hp => e ▸ List.mem_append.mpr (.inl hp)
end
end Mine
end

section
open PySem PySem.W PyProof.Rows
set_option maxRecDepth 100000
set_option maxHeartbeats 8000000
namespace Mine
local macro_rules | `(tactic| k_room) => `(tactic| ktr_room)
section
variable {w : World} {p : Program} {loose : List Str} {mean : ExcName → Option Value} {mg mb : Str → Option Value}

theorem decD {news : Led} {v : Value} {t : Int} (h1 : IsDec w.params news v t) : Does w p loose mean mg mb 173 4 news [v] (fun nx r => r = v ∧ nx = news) := by
  obtain ⟨x, d, k1, k2, top, u1, pl, u2, rfl, hx, hd, hc⟩ := h1
  unfold Does
  k_fill
  intro dp un gd cn cs a ccd cl outer A₀ base h₀ L m s Q E B F X N T hk hd hu hret
  refine wpAny_call ?_
  k_dflt ktr_enter
  k_steps
  exact hret _ [] _ _ (by k_asm) (by k_asm) (fun _ _ _ h => nomatch h) ⟨rfl, rfl⟩

local macro_rules | `(tactic| walk_at $s:str) => `(tactic| k_extra $s)
theorem words_C1b_1 : True := by
  k_with_none
  (k_with "call ref" => (k_here; (with_reducible show wpAny _ _ (call (Value.ref 155) [Value.int _ _, Value.int _ _]) _ _ _); k_dflt (refine' does_use ?kB ?kF ?kX ?kN ?kT ?kK (mkD (pl := 0) (Or.inl ⟨rfl, rfl⟩)) ?hd ?hu ?_; (case kB => k_asm); (case kF => k_asm); (case kX => k_asm); (case kN => k_asm); (case kT => k_asm); (case kK => first | exact rfl | assumption); (case hd => ktr_room); (case hu => ktr_units); k_whole; intro _ _ _ _ _ _ _ _; (try dsimp only); (try k_fold))))
  trivial
theorem decI {news : Led} {t : Int} {tk : Tok} : Does w p loose mean mg mb 173 6 news [.int t tk] (fun nx r => IsDec w.params nx r (10 * t)) := by
  unfold Does
  k_fill
  intro dp un gd cn cs a ccd cl outer A₀ base h₀ L m s Q E B F X N T hk hd hu hret
  refine wpAny_call ?_
  k_dflt ktr_enter
  k_steps
  exact ret1 hret (by k_asm) (by k_asm) (by assumption) (by assumption)
end
theorem tl_nil {tl news : Led} (h : tl ++ news = news) : tl = [] := by
  have := congrArg List.length h
  simp at this
  exact this
end Mine
end

section
open PySem PySem.W PyProof.Rows
set_option maxRecDepth 100000
set_option maxHeartbeats 8000000
namespace Mine
local macro_rules | `(tactic| k_room) => `(tactic| ktr_room)
local macro_rules | `(tactic| walk_at $s:str) => `(tactic| k_extra $s)
theorem words_C2_1 : True := by
  k_with_none
  (k_with "binaryOp Pow int int" => (k_here; (with_reducible refine pow_int_small ?kb1 ?kb2 ?kb3 ?_); (case kb1 => first | omega | (split <;> omega)); (case kb2 => first | omega | (split <;> omega)); (case kb3 => decide)))
  trivial
theorem pow10_ok {a e : Int} (h : e ≤ 1) : IntMulOk a (10 ^ e.toNat) := by
  refine IntMulOk.of_right (intBits_le ?_)
  rcases (show e.toNat = 0 ∨ e.toNat = 1 by omega) with h | h <;> rw [h] <;> decide
theorem words_C2_2 : True := by
  (k_with "binaryOp Mult int int" => (k_here; (with_reducible refine PyProof.Rows.mul_int ?_ ?kb1); rotate_left; (case kb1 => exact pow10_ok (by first | omega | (split <;> omega)))))
  (k_with "M dec" => first | assumption | exact IsDec.mono (by assumption) (by ktd_sub))
  (k_with "call ref" => (k_here; (with_reducible show wpAny _ _ (call (Value.ref 173) [Value.ref _]) _ _ _); k_dflt (refine' does_use ?kB ?kF ?kX ?kN ?kT ?kK (decD ?l1) ?hd ?hu ?_; (case kB => k_asm); (case kF => k_asm); (case kX => k_asm); (case kN => k_asm); (case kT => k_asm); (case kK => first | exact rfl | assumption); (case l1 => k_extra "M dec"); (case hd => ktr_room); (case hu => ktr_units); k_whole; intro _ _ _ _ _ N9 l9 P9; obtain ⟨rfl, hn9⟩ := P9; have hn8 := tl_nil hn9; subst hn8; clear hn9 l9; (try simp only [List.nil_append] at N9); revert N9; intro _; (try dsimp only); (try k_fold))))
  trivial
def IsTrip (news : Led) (r : Value) (a b c : Int) : Prop :=
  ∃ (x : Addr) (ta tb tc : Tok), r = .ref x ∧ (x, ({ cls := .type "tuple", data := .seq [.int a ta, .int b tb, .int c tc].toArray } : Obj)) ∈ news

section
variable {w : World} {p : Program} {loose : List Str} {mean : ExcName → Option Value} {mg mb : Str → Option Value}

theorem scale {news : Led} {v1 v2 : Value} {t1 t2 : Int} (h1 : IsDec w.params news v1 t1) (h2 : IsDec w.params news v2 t2) :
    Does w p loose mean mg mb 180 4 news [v1, v2] (fun nx r => ∃ a b c, IsTrip nx r a b c ∧ ((c = 0 ∧ t1 = 10 * a ∧ t2 = 10 * b) ∨ (c = 1 ∧ t1 = a ∧ t2 = b))) := by
  have h1' := h1
  have h2' := h2
  obtain ⟨x, d, k1, k2, top, u1, pl, u2, rfl, hx, hd, hc⟩ := h1'
  obtain ⟨y, e, k3, k4, bot, u3, ql, u4, rfl, hy, he, hq⟩ := h2'
  unfold Does
  k_fill
  intro dp un gd cn cs a ccd cl outer A₀ base h₀ L m s Q E B F X N T hk hd hu hret
  refine wpAny_call ?_
  k_dflt ktr_enter
  k_steps
  refine hret _ [_] _ _ (by k_asm) (by k_asm) ?_ ⟨_, _, _, ⟨_, _, _, _, rfl, .head _⟩, ?_⟩
  · intro q hq p' hp
    cases List.mem_singleton.mp hp
    have := (by assumption : ∀ p ∈ news, p.1 < _)
    exact Nat.ne_of_lt (this q hq)
  · rcases hc with ⟨rfl, rfl⟩ | ⟨rfl, rfl⟩ <;> rcases hq with ⟨rfl, rfl⟩ | ⟨rfl, rfl⟩ <;> simp <;> omega
end
end Mine
end

section
open PySem PySem.W PyProof.Rows
set_option maxRecDepth 100000
set_option maxHeartbeats 8000000
namespace Mine
local macro_rules | `(tactic| k_room) => `(tactic| ktr_room)
local macro_rules | `(tactic| walk_at $s:str) => `(tactic| k_extra $s)
theorem words_C3_1 : True := by
  k_with_none
  (k_with "M dec" => first | assumption | exact IsDec.mono (by assumption) (by ktd_sub))
  (k_with "call ref" => (k_here; (with_reducible show wpAny _ _ (call (Value.ref 180) _) _ _ _); k_dflt (refine' does_use ?kB ?kF ?kX ?kN ?kT ?kK (scale ?h1 ?h2) ?hd ?hu ?_; (case kB => k_asm); (case kF => k_asm); (case kX => k_asm); (case kN => k_asm); (case kT => k_asm); (case kK => first | exact rfl | assumption); (case h1 => k_extra "M dec"); (case h2 => k_extra "M dec"); (case hd => ktr_room); (case hu => ktr_units); k_whole; intro _ _ _ _ _ _ _ P9; obtain ⟨_, _, _, ⟨_, _, _, _, rfl, _⟩, _⟩ := P9; (try dsimp only); (try k_fold))))
  trivial
section
variable {w : World} {p : Program} {loose : List Str} {mean : ExcName → Option Value} {mg mb : Str → Option Value}

theorem cmpD {news : Led} {v1 v2 : Value} {t1 t2 : Int} (h1 : IsDec w.params news v1 t1) (h2 : IsDec w.params news v2 t2) :
    Does w p loose mean mg mb 110 8 news [v1, v2] (fun _ r => ∃ tk, r = .int (if t1 = t2 then 0 else if t1 > t2 then 1 else -1) tk) := by
  unfold Does
  k_fill
  intro dp un gd cn cs a ccd cl outer A₀ base h₀ L m s Q E B F X N T hk hd hu hret
  refine wpAny_call ?_
  k_dflt ktr_enter
  k_steps
  all_goals (
    refine hret _ _ _ _ (by k_asm) (by k_asm) (by assumption) (ktn_int ?_)
    (rename ((_ : Int) = 0 ∧ _ ∧ _ ∨ _) => hc)
    rcases hc with ⟨-, rfl, rfl⟩ | ⟨-, rfl, rfl⟩ <;> (repeat' split) <;> omega)
end
theorem words_C3_2 : True := by
  (k_with "call ref" => (k_here; (with_reducible show wpAny _ _ (call (Value.ref 155) [Value.int _ _, Value.int _ _]) _ _ _); k_dflt (refine' does_use ?kB ?kF ?kX ?kN ?kT ?kK (mkD ?h1) ?hd ?hu ?_; (case kB => k_asm); (case kF => k_asm); (case kX => k_asm); (case kN => k_asm); (case kT => k_asm); (case kK => first | exact rfl | assumption); (case h1 => k_extra "M mk"); (case hd => ktr_room); (case hu => ktr_units); k_whole; intro _ _ _ _ _ _ _ _; (try dsimp only); (try k_fold))))
  trivial
section
variable {w : World} {p : Program} {loose : List Str} {mean : ExcName → Option Value} {mg mb : Str → Option Value}

theorem mk_plus {c a b t1 t2 : Int} (h : (c = 0 ∧ t1 = 10 * a ∧ t2 = 10 * b) ∨ (c = 1 ∧ t1 = a ∧ t2 = b)) : (c = 0 ∧ t1 + t2 = 10 * (a + b)) ∨ (c = 1 ∧ t1 + t2 = a + b) := by omega
theorem mk_neg {c t1 a : Int} (h : (c = 0 ∧ t1 = 10 * a) ∨ (c = 1 ∧ t1 = a)) : (c = 0 ∧ -t1 = 10 * (-a)) ∨ (c = 1 ∧ -t1 = -a) := by omega
theorem words_C3_3 : True := by
  (k_with "M mk" => first | exact mk_plus (by assumption) | exact mk_neg (by assumption))
  trivial
theorem plusD {news : Led} {v1 v2 : Value} {t1 t2 : Int} (h1 : IsDec w.params news v1 t1) (h2 : IsDec w.params news v2 t2) :
    Does w p loose mean mg mb 82 8 news [v1, v2] (fun nx r => IsDec w.params nx r (t1 + t2)) := by
  unfold Does
  k_fill
  intro dp un gd cn cs a ccd cl outer A₀ base h₀ L m s Q E B F X N T hk hd hu hret
  refine wpAny_call ?_
  k_dflt ktr_enter
  k_steps
  exact ret2 hret (by k_asm) (by k_asm) (by assumption) (by assumption) (by assumption)

theorem negD {news : Led} {v1 : Value} {t1 : Int} (h1 : IsDec w.params news v1 t1) :
    Does w p loose mean mg mb 103 8 news [v1] (fun nx r => IsDec w.params nx r (- t1)) := by
  obtain ⟨x, d, k1, k2, top, u1, pl, u2, rfl, hx, hd, hc⟩ := h1
  unfold Does
  k_fill
  intro dp un gd cn cs a ccd cl outer A₀ base h₀ L m s Q E B F X N T hk hd hu hret
  refine wpAny_call ?_
  k_dflt ktr_enter
  k_steps
  exact ret1 hret (by k_asm) (by k_asm) (by assumption) (by assumption)
end
end Mine
end

section
open PySem PySem.W PyProof.Rows
set_option maxRecDepth 100000
set_option maxHeartbeats 8000000
namespace Mine

inductive AllD (P : Params) (news : Led) : List Value → List Int → Prop
  | nil : AllD P news [] []
  | cons {v : Value} {t : Int} {vs : List Value} {ts : List Int} : IsDec P news v t → AllD P news vs ts → AllD P news (v :: vs) (t :: ts)
theorem AllD.mono {P : Params} {news news' : Led} {vs : List Value} {ts : List Int} (h : AllD P news vs ts) (hs : ∀ p ∈ news, p ∈ news') : AllD P news' vs ts := by
  induction h with
  | nil => exact .nil
  | cons h _ ih => exact .cons (h.mono hs) ih
theorem AllD.length {P : Params} {news : Led} {vs : List Value} {ts : List Int} (h : AllD P news vs ts) : vs.length = ts.length := by
  induction h with
  | nil => rfl
  | cons _ _ ih => simp [ih]
theorem AllD.append {P : Params} {news : Led} {vs vs' : List Value} {ts ts' : List Int} (h : AllD P news vs ts) (h' : AllD P news vs' ts') : AllD P news (vs ++ vs') (ts ++ ts') := by
  induction h with
  | nil => exact h'
  | cons h _ ih => exact .cons h ih

abbrev lstO (vs : List Value) (n : Nat) : Obj := { cls := .type "list", data := .seq vs.toArray n }

section
variable {prog : Program} {w : World} {A : Around} {E : Value → Shared → Prop} {s : Shared} {h₀ : Heap} {L l : Addr} {news : Led}
theorem len_led {vs : List Value} {n k : Nat} {Q : Value → Shared → Prop} (N : News h₀ L s.heap news) (hm : (l, lstO vs n) ∈ news) (e : vs.length = k) (hfit : k ≤ 100000)
    (h : Q (.int (k : Int) (s.toks + 1)) { s with toks := s.toks + 1 + 1 }) : wpAny (model prog w) A (call (.builtin "len") [.ref l]) Q E s := by
  have hl : s.heap.IsList l vs.toArray := ⟨_, (N _ hm).1, rfl, n, rfl⟩
  have e2 : vs.toArray.size = k := by rw [List.size_toArray, e]
  exact len_list hl (by rw [e2]; omega) (by rw [e2]; exact h)
theorem slice_tail {v0 : Value} {vs : List Value} : (PySem.slicePick (v0 :: vs).toArray (some 1) none none).toList = vs := by
  have e : sliceBounds (some 1) none none (v0 :: vs).toArray.size = (((1 : Nat) : Int), (((v0 :: vs).toArray.size : Nat) : Int), 1) := by
    simp [sliceBounds]; omega
  rw [kmk_pick_nat _ e]
  simp
end

theorem map_at {m : Str → Option Value} {x : Str} {b : Value} (h : m x = some b) : m = fun y => if y = x then some b else m y := by
  funext y
  by_cases e : y = x
  · subst e; simp [h]
  · simp [e]

section
variable {prog : Program} {w : World} {A : Around} {E : Value → Shared → Prop} {s : Shared} {env : Env} {h₀ : Heap} {target : Expr} {body : List Stmt} {Q : Flow → Shared → Prop}

/-- a loop over the items of a made list, by what holds of the items left, the names and the ledger -/
theorem items_ind {I : Addr} {keep : Led} (J : List Value → (Str → Option Value) → Led → Prop)
    (stop : ∀ m nx h tk, J [] m nx → Fr h₀ env.locals h m → News h₀ env.locals h nx → Q .next { s with heap := h, toks := tk })
    (turn : ∀ v vs m nx h tk o, J (v :: vs) m nx → (∀ p ∈ nx, p.1 ≠ I) → SubL keep nx → Fr h₀ env.locals h m → News h₀ env.locals h ((I, o) :: nx) →
      wpAny (model prog w) A (assign target env v) (fun _ s₂ => wpAny (model prog w) A (execs body env) (UnrPostW h₀ env.locals { s with heap := h, toks := tk } [(I, o)] (fun m' n' => SubL keep n' ∧ J vs m' n') Q) E s₂) E { s with heap := h, toks := tk }) :
    ∀ vs m nx, J vs m nx → (∀ p ∈ nx, p.1 ≠ I) → SubL keep nx → ItemsRest prog w A E h₀ env target body Q s [(I, "list_iterator")] keep (vs.map .val) m nx := by
  intro vs
  induction vs with
  | nil => intro m nx hJ _ _; exact ItemsRest.zero fun h tk F N => stop m nx h tk hJ F N
  | cons v vs ih =>
    intro m nx hJ hoff hk
    refine ItemsRest.val fun h tk F => AllObj.cons fun o _ => AllObj.nil fun N => ?_
    refine wpAny_mono (turn v vs m nx h tk o hJ hoff hk F N) (fun _ s₂ p => wpAny_mono p (fun f s₃ q => ?_) fun _ _ e => e) fun _ _ e => e
    have fin : UnrEndW h₀ env.locals { s with heap := h, toks := tk } [(I, o)] (fun m' n' => SubL keep n' ∧ J vs m' n') s₃ →
        UnrEndW h₀ env.locals { s with heap := h, toks := tk } [(I, o)] (fun m' n' => SubL keep n' ∧ ItemsRest prog w A E h₀ env target body Q s [(I, "list_iterator")] keep (vs.map .val) m' n') s₃ := by
      rintro ⟨h', tk', m', n', e, F', N', ho, hk', hJ'⟩
      exact ⟨h', tk', m', n', e, F', N', ho, hk', ih m' n' hJ' (fun p hp => ho p hp _ (.head _)) hk'⟩
    cases f with
    | ret v => exact q
    | brk => exact q
    | next => exact fin q
    | cont => exact fin q

theorem for_list {ax : Addr} {vs : List Value} {n : Nat} {m₀ : Str → Option Value} {news : Led} (J : List Value → (Str → Option Value) → Led → Prop)
    (hh : A.handled = none) (F : Fr h₀ env.locals s.heap m₀) (N : News h₀ env.locals s.heap news) (hm : (ax, lstO vs n) ∈ news) (hj : J vs m₀ news)
    (stop : ∀ m nx h tk, J [] m nx → Fr h₀ env.locals h m → News h₀ env.locals h nx → Q .next { s with heap := h, toks := tk })
    (turn : ∀ I v vs' m nx h tk o, J (v :: vs') m nx → (∀ p ∈ nx, p.1 ≠ I) → (ax, lstO vs n) ∈ nx → Fr h₀ env.locals h m → News h₀ env.locals h ((I, o) :: nx) →
      wpAny (model prog w) A (assign target env v) (fun _ s₂ => wpAny (model prog w) A (execs body env) (UnrPostW h₀ env.locals { s with heap := h, toks := tk } [(I, o)] (fun m' n' => SubL [(ax, lstO vs n)] n' ∧ J vs' m' n') Q) E s₂) E { s with heap := h, toks := tk }) :
    wpAny (model prog w) A (pyIter (.ref ax)) (fun it s₂ => TurnsAt prog w A h₀ env target body Q E it s₂) E s :=
  iter_listTurns hh F N hm rfl rfl fun I hI => items_ind J stop (fun v vs' m nx h tk o hJ ho hk F' N' => turn I v vs' m nx h tk o hJ ho hk.1 F' N') vs m₀ news hj (fun p hp => Nat.ne_of_lt (hI p hp)) ⟨hm, trivial⟩

theorem turn_end {ax I : Addr} {vs : List Value} {n : Nat} {o : Obj} {L : Addr} {J : (Str → Option Value) → Led → Prop} {m' : Str → Option Value} {led : Led} {s₁ : Shared} {h' : Heap} {tk : Nat}
    (F : Fr h₀ L h' m') (N : News h₀ L h' led) (hI : (I, o) ∈ led) (nx : Led) (hs : ∀ p ∈ nx, p ∈ led) (off : ∀ p ∈ nx, p.1 ≠ I) (hk : (ax, lstO vs n) ∈ nx) (hJ : J m' nx) :
    UnrEndW h₀ L s₁ [(I, o)] (fun m' n' => SubL [(ax, lstO vs n)] n' ∧ J m' n') { s₁ with heap := h', toks := tk } :=
  ⟨h', tk, m', nx, rfl, F, fun p hp => by
    rcases List.mem_cons.mp hp with rfl | hp
    · exact N _ hI
    · exact N _ (hs p hp), fun p hp q hq => by rw [List.mem_singleton.mp hq]; exact off p hp, ⟨hk, trivial⟩, hJ⟩

/-- one call's new entries on top of the iterator and what stood -/
theorem turn_end1 {ax I : Addr} {vs : List Value} {n : Nat} {o : Obj} {L : Addr} {J : (Str → Option Value) → Led → Prop} {m' : Str → Option Value} {tl nx : Led} {s₁ : Shared} {h' : Heap} {tk : Nat}
    (F : Fr h₀ L h' m') (N : News h₀ L h' (tl ++ ((I, o) :: nx))) (ab : ∀ q ∈ ((I, o) :: nx), ∀ p ∈ tl, q.1 ≠ p.1) (off : ∀ p ∈ nx, p.1 ≠ I) (hk : (ax, lstO vs n) ∈ nx) (hJ : J m' (tl ++ nx)) :
    UnrEndW h₀ L s₁ [(I, o)] (fun m' n' => SubL [(ax, lstO vs n)] n' ∧ J m' n') { s₁ with heap := h', toks := tk } := by
  refine turn_end F N (List.mem_append.mpr (.inr (.head _))) (tl ++ nx) (fun p hp => ?_) (fun p hp => ?_) (List.mem_append.mpr (.inr hk)) hJ
  · rcases List.mem_append.mp hp with hp | hp
    · exact List.mem_append.mpr (.inl hp)
    · exact List.mem_append.mpr (.inr (.tail _ hp))
  · rcases List.mem_append.mp hp with hp | hp
    · exact Ne.symm (ab _ (.head _) p hp)
    · exact off p hp
end

end Mine
end

section
open PySem PySem.W PyProof.Rows PyProof.Rows.LCg PyProof.Rows.LCp
set_option maxRecDepth 100000
set_option maxHeartbeats 8000000
namespace Mine
section
variable {prog : Program} {w : World} {A : Around} {E : Value → Shared → Prop} {s : Shared} {env : Env} {h₀ : Heap} {L : Addr} {m : Str → Option Value}

theorem comp_mono {s₁ : Shared} {I C D : Addr} {oI oC oD : Obj} {S : Led → Prop} {r r' : Value → Led → Prop} {y : Value} {s₂ : Shared} (h : CompEnd h₀ L m s₁ I oI C oC D oD S r y s₂) (k : ∀ y nx, S nx → r y nx → r' y nx) : CompEnd h₀ L m s₁ I oI C oC D oD S r' y s₂ := by
  obtain ⟨h', tk, nx, e, F, N, o, hS, hr⟩ := h
  exact ⟨h', tk, nx, e, F, N, o, hS, k _ _ hS hr⟩

/-- a comprehension's turns, by what holds of the number taken, what was made and the ledger -/
theorem comp_ind {elt : Expr} {x : Str} {scope : Scope} {cl : List (Str × Addr)} {S : Led → Prop} {P : Nat → Value → Prop} {Fin : List Value → Led → Prop} {n : Nat} (J : Nat → List Value → Led → Prop)
    (fin : ∀ ys nx, J n ys nx → Fin ys nx)
    (turn : ∀ i v ys nx I oI C oC D m₂ h tk (E' : Value → Shared → Prop), i < n → P i v → J i ys nx → S nx → NsObj oC m₂ → m₂ x = some v → Fr h₀ L h m → News h₀ L h ((I, oI) :: (C, oC) :: (D, lst ys) :: nx) → Off3 I C D nx → ((@Ne Nat I C) ∧ (@Ne Nat I D) ∧ (@Ne Nat C D)) →
      wpAny (model prog w) A (eval elt (compEnvC scope cl C env)) (CompEnd h₀ L m { s with heap := h, toks := tk } I oI C oC D (lst ys) S (fun y nx' => J (i + 1) (ys ++ [y]) nx')) E' { s with heap := h, toks := tk })
    {news : Led} (hS : S news) (h0 : J 0 [] news) : CompRest prog w A h₀ L m env elt x scope cl s S P Fin n 0 [] news := by
  have all : ∀ k i ys nx, i + k = n → S nx → J i ys nx → CompRest prog w A h₀ L m env elt x scope cl s S P Fin k i ys nx := by
    intro k
    induction k with
    | zero => intro i ys nx e _ hJ; obtain rfl : i = n := by omega
              exact fin ys nx hJ
    | succ k ih =>
      intro i ys nx e hS hJ
      refine CompRest.succ fun v I oI C oC D m₂ h tk E' hP hC hx F N o ne => ?_
      exact wpAny_mono (turn i v ys nx I oI C oC D m₂ h tk E' (by omega) hP hJ hS hC hx F N o ne) (fun y s₂ q => comp_mono q fun y nx' hS' hJ' => ih (i + 1) (ys ++ [y]) nx' (by omega) hS' hJ') fun _ _ e => e
  exact all n 0 [] news (by omega) hS h0

theorem comp_indP {elt : Expr} {x x₂ : Str} {scope : Scope} {cl : List (Str × Addr)} {S : Led → Prop} {P : Nat → Value → Prop} {Fin : List Value → Led → Prop} {n : Nat} (J : Nat → List Value → Led → Prop)
    (fin : ∀ ys nx, J n ys nx → Fin ys nx)
    (turn : ∀ i v ys nx, i < n → P i v → J i ys nx → S nx → ∃ (t : Addr) (ot : Obj) (v₁ v₂ : Value) (nt : Nat), v = .ref t ∧ (t, ot) ∈ nx ∧ ot.cls = .type "tuple" ∧ ot.data = .seq #[v₁, v₂] nt ∧
      ∀ I oI C oC D m₂ h tk (E' : Value → Shared → Prop), NsObj oC m₂ → m₂ x = some v₁ → m₂ x₂ = some v₂ → Fr h₀ L h m → News h₀ L h ((I, oI) :: (C, oC) :: (D, lst ys) :: nx) → Off3 I C D nx → ((@Ne Nat I C) ∧ (@Ne Nat I D) ∧ (@Ne Nat C D)) →
      wpAny (model prog w) A (eval elt (compEnvC scope cl C env)) (CompEnd h₀ L m { s with heap := h, toks := tk } I oI C oC D (lst ys) S (fun y nx' => J (i + 1) (ys ++ [y]) nx')) E' { s with heap := h, toks := tk })
    {news : Led} (hS : S news) (h0 : J 0 [] news) : CompRestP prog w A h₀ L m env elt x x₂ scope cl s S P Fin n 0 [] news := by
  have all : ∀ k i ys nx, i + k = n → S nx → J i ys nx → CompRestP prog w A h₀ L m env elt x x₂ scope cl s S P Fin k i ys nx := by
    intro k
    induction k with
    | zero => intro i ys nx e _ hJ; obtain rfl : i = n := by omega
              exact fin ys nx hJ
    | succ k ih =>
      intro i ys nx e hS hJ
      refine CompRestP.succ fun v hP => ?_
      obtain ⟨t, ot, v₁, v₂, nt, e1, e2, e3, e4, go⟩ := turn i v ys nx (by omega) hP hJ hS
      refine ⟨t, ot, v₁, v₂, nt, e1, e2, e3, e4, fun I oI C oC D m₂ h tk E' hC hx hx₂ F N o ne => ?_⟩
      exact wpAny_mono (go I oI C oC D m₂ h tk E' hC hx hx₂ F N o ne) (fun y s₂ q => comp_mono q fun y nx' hS' hJ' => ih (i + 1) (ys ++ [y]) nx' (by omega) hS' hJ') fun _ _ e => e
  exact all n 0 [] news (by omega) hS h0

theorem off3_app {I C D : Addr} {tl nx : Led} {oI oC oD : Obj} (ab : ∀ q ∈ (I, oI) :: (C, oC) :: (D, oD) :: nx, ∀ p ∈ tl, q.1 ≠ p.1) (o : Off3 I C D nx) : Off3 I C D (tl ++ nx) := by
  refine Off3.of fun p hp => ?_
  rcases List.mem_append.mp hp with hp | hp
  · exact ⟨Ne.symm (ab _ (.head _) p hp), Ne.symm (ab _ (.tail _ (.head _)) p hp), Ne.symm (ab _ (.tail _ (.tail _ (.head _))) p hp)⟩
  · exact o.mem p hp

theorem comp_end0 {I C D : Addr} {nx : Led} {oI oC oD : Obj} {s₁ : Shared} {S : Led → Prop} {r : Value → Led → Prop} {y : Value} {h' : Heap} {tk : Nat}
    (F : Fr h₀ L h' m) (N : News h₀ L h' ((I, oI) :: (C, oC) :: (D, oD) :: nx)) (o : Off3 I C D nx) (hS : S nx) (hr : r y nx) : CompEnd h₀ L m s₁ I oI C oC D oD S r y { s₁ with heap := h', toks := tk } :=
  ⟨h', tk, nx, rfl, F, N, o, hS, hr⟩
theorem comp_end1 {I C D : Addr} {tl nx : Led} {oI oC oD : Obj} {s₁ : Shared} {S : Led → Prop} {r : Value → Led → Prop} {y : Value} {h' : Heap} {tk : Nat}
    (F : Fr h₀ L h' m) (N : News h₀ L h' (tl ++ ((I, oI) :: (C, oC) :: (D, oD) :: nx))) (ab : ∀ q ∈ (I, oI) :: (C, oC) :: (D, oD) :: nx, ∀ p ∈ tl, q.1 ≠ p.1) (o : Off3 I C D nx) (hS : S (tl ++ nx)) (hr : r y (tl ++ nx)) :
    CompEnd h₀ L m s₁ I oI C oC D oD S r y { s₁ with heap := h', toks := tk } := by
  refine ⟨h', tk, tl ++ nx, rfl, F, fun p hp => N p ?_, off3_app ab o, hS, hr⟩
  simp only [List.mem_cons, List.mem_append] at hp ⊢
  rcases hp with h | h | h | h | h
  · exact .inr (.inl h)
  · exact .inr (.inr (.inl h))
  · exact .inr (.inr (.inr (.inl h)))
  · exact .inl h
  · exact .inr (.inr (.inr (.inr h)))

theorem src_mono {ax : Addr} {its : Array Value} {nx nx' : Led} (h : SrcAt h₀ ax its nx) (k : ∀ p ∈ nx, p ∈ nx') : SrcAt h₀ ax its nx' := by
  rcases h with h | ⟨o, hm, r⟩
  · exact .inl h
  · exact .inr ⟨o, k _ hm, r⟩
end


theorem AllD.get {P : Params} {news : Led} {vs : List Value} {ts : List Int} (h : AllD P news vs ts) : ∀ {i : Nat} {v : Value}, vs[i]? = some v → ∃ t, ts[i]? = some t ∧ IsDec P news v t := by
  induction h with
  | nil => intro i v e; simp at e
  | cons h _ ih =>
    intro i v e
    cases i with
    | zero => simp at e; subst e; exact ⟨_, rfl, h⟩
    | succ i => simpa using ih (by simpa using e)
theorem take_snoc {α : Type} {l : List α} {i : Nat} {v : α} (h : l[i]? = some v) : l.take i ++ [v] = l.take (i + 1) := by
  rw [List.take_add_one, h]; rfl

/-- a place where the walk is to halt -/
def Stop (P : Prop) : Prop := P
theorem Stop.out {P : Prop} (h : Stop P) : P := h
theorem Stop.mk {P : Prop} (h : P) : Stop P := h

theorem keep_ne {led nx : Led} {f : Addr} (hk : ∀ p ∈ led, p.1 ≠ f ∨ p.2.cls ≠ .type "list" → p ∈ nx) {a : Addr} {o : Obj} (h : (a, o) ∈ led) (hc : o.cls ≠ .type "list") : (a, o) ∈ nx := hk _ h (.inr hc)
theorem IsDec.keep {P : Params} {led nx : Led} {f : Addr} {v : Value} {t : Int} (h : IsDec P led v t) (hk : ∀ p ∈ led, p.1 ≠ f ∨ p.2.cls ≠ .type "list" → p ∈ nx) : IsDec P nx v t := by
  obtain ⟨x, d, k1, k2, top, t1, pl, t2, e, h1, h2, h3⟩ := h
  exact ⟨x, d, k1, k2, top, t1, pl, t2, e, keep_ne hk h1 (by simp), keep_ne hk h2 (by simp), h3⟩

section
variable {prog : Program} {w : World} {A : Around} {E : Value → Shared → Prop} {s : Shared} {h₀ : Heap} {L f : Addr} {m : Str → Option Value}
theorem append_led {led : Led} {items : List Value} {n : Nat} {x : Value} {Q : Value → Shared → Prop} (F : Fr h₀ L s.heap m) (N : News h₀ L s.heap led) (hm : (f, lstO items n) ∈ led) (hsz : items.length ≤ 100000)
    (h : ∀ nx h' n', Fr h₀ L h' m → News h₀ L h' nx → (f, lstO (items ++ [x]) n') ∈ nx → (∀ p ∈ led, p.1 ≠ f ∨ p.2.cls ≠ .type "list" → p ∈ nx) → Q .none { s with heap := h' }) :
    wpAny (model prog w) A (call (.builtin "list.append") [.ref f, x]) Q E s := by
  have N₂ : News h₀ L s.heap ((f, lstO items n) :: led.filter fun p => p.1 != f) := fun p hp => by
    rcases List.mem_cons.mp hp with rfl | hp
    · exact N _ hm
    · exact N p (List.mem_filter.mp hp).1
  refine append_K F N₂ (Upd.head fun p hp => by simpa using (List.mem_filter.mp hp).2) (fun h' F' N' => ?_) (by simp [sizeLine_eq]; omega)
  have e : (items ++ [x]).toArray = items.toArray.push x := by simp
  refine h _ h' (n + 1) F' N' (by show (f, ({ cls := .type "list", data := .seq (items ++ [x]).toArray (n + 1) } : Obj)) ∈ _; rw [e]; exact .head _) fun p hp ho => ?_
  have hne : p.1 ≠ f := fun e => by
    have := News.same N hp hm e
    subst this
    rcases ho with ho | ho
    · exact ho rfl
    · exact ho rfl
  exact .tail _ (List.mem_filter.mpr ⟨hp, by simpa using hne⟩)
end

theorem IsDec.kept {P : Params} {l0 led nx : Led} {f : Addr} {v : Value} {t : Int} (hk : ∀ p ∈ led, p.1 ≠ f ∨ p.2.cls ≠ .type "list" → p ∈ nx) (h : IsDec P l0 v t) (hs : ∀ p ∈ l0, p ∈ led) : IsDec P nx v t := (h.mono hs).keep hk
theorem led_kept {Lb led nx : Led} {f : Addr} (hk : ∀ p ∈ led, p.1 ≠ f ∨ p.2.cls ≠ .type "list" → p ∈ nx) (hf : ∀ p ∈ Lb, p.1 ≠ f) (hs : ∀ p ∈ Lb, p ∈ led) : ∀ p ∈ Lb, p ∈ nx := fun p hp => hk p (hs p hp) (.inl (hf p hp))
end Mine
end

section
open PySem PySem.W PyProof.Rows
set_option maxRecDepth 100000
set_option maxHeartbeats 8000000
namespace Mine
local macro_rules | `(tactic| k_room) => `(tactic| ktr_room)
local macro_rules | `(tactic| k_mem) => `(tactic| first | exact List.mem_cons_self | (refine List.mem_cons_of_mem _ ?_; k_mem))
local macro_rules | `(tactic| walk_at $s:str) => `(tactic| k_extra $s)
theorem words_C4_1 : True := by
  k_with_none
  (k_with "M dec" => first | assumption | exact IsDec.mono (by assumption) (by ktd_sub))
  (k_with "call builtin:len" => (k_here; (with_reducible show wpAny _ _ (call (Value.builtin "len") [Value.ref _]) _ _ _); k_dflt (refine' len_led ?k1 ?k2 ?k3 ?k4 ?_; (case k1 => k_asm); (case k2 => k_mem); (case k3 => first | exact List.length_cons | exact rfl); (case k4 => omega); k_whole)))
  (k_with "subscriptTail" => (k_here; (with_reducible show wpAny _ _ (subscriptTail _ _ (Value.ref _) (Value.int _ _)) _ _ _); k_dflt (refine' item_listL ?k1 ?k2 ?k3 ?k4 ?_ ?k5 ?k6; (case k1 => exact News.isList (by k_asm) (by k_mem)); (case k2 => decide); (case k3 => decide); (case k4 => rfl); (case k5 => with_unfolding_all rfl); (case k6 => intro _; with_unfolding_all rfl); k_whole)))
  trivial
local macro_rules | `(tactic| kl_lit) => `(tactic| exact slice_tail)
theorem words_C4_2 : True := by
  (k_with "ite" => (k_here; k_openite; (refine ite_neg (by (simp only [beq_iff_eq]; omega)) ?_)))
  (k_with "exec For" => (k_here; (rename Fr _ _ _ _ => lF'); (with_unfolding_all refine' For_turns lF' ?_; k_whole)))
  (k_with "call ref" => (k_here; (with_reducible show wpAny _ _ (call (Value.ref 110) [_, _]) _ _ _); k_dflt (refine' does_use ?kB ?kF ?kX ?kN ?kT ?kK (cmpD ?l1 ?l2) ?hd ?hu ?_; (case kB => k_asm); (case kF => k_asm); (case kX => k_asm); (case kN => k_asm); (case kT => k_asm); (case kK => first | exact rfl | assumption); (case l1 => k_extra "M dec"); (case l2 => k_extra "M dec"); (case hd => ktr_room); (case hu => ktr_units); k_whole; intro _ _ _ _ _ _ _ P9; obtain ⟨_, rfl⟩ := P9; (try dsimp only); (try k_fold))))
  (k_with "call ref" => (k_here; (with_reducible show wpAny _ _ (call (Value.ref 173) [Value.ref _]) _ _ _); k_dflt (refine' does_use ?kB ?kF ?kX ?kN ?kT ?kK (decD ?l1) ?hd ?hu ?_; (case kB => k_asm); (case kF => k_asm); (case kX => k_asm); (case kN => k_asm); (case kT => k_asm); (case kK => first | exact rfl | assumption); (case l1 => k_extra "M dec"); (case hd => ktr_room); (case hu => ktr_units); k_whole; intro _ _ _ _ _ N9 l9 P9; obtain ⟨rfl, hn9⟩ := P9; have hn8 := tl_nil hn9; subst hn8; clear hn9 l9; (try simp only [List.nil_append] at N9); revert N9; intro _; (try dsimp only); (try k_fold))))
  trivial
theorem min_up {tb t : Int} (h : 0 < (if tb = t then (0 : Int) else if tb > t then 1 else -1)) : min tb t = t := by
  (repeat' split at h) <;> omega
theorem min_keep {tb t : Int} (h : ¬ 0 < (if tb = t then (0 : Int) else if tb > t then 1 else -1)) : min tb t = tb := by
  (repeat' split at h) <;> omega
theorem max_up {tb t : Int} (h : (if tb = t then (0 : Int) else if tb > t then 1 else -1) < 0) : max tb t = t := by
  (repeat' split at h) <;> omega
theorem max_keep {tb t : Int} (h : ¬ (if tb = t then (0 : Int) else if tb > t then 1 else -1) < 0) : max tb t = tb := by
  (repeat' split at h) <;> omega

section
variable {w : World} {p : Program} {loose : List Str} {mean : ExcName → Option Value} {mg mb : Str → Option Value}

theorem leastD {news : Led} {l : Addr} {n : Nat} {v0 : Value} {t0 : Int} {vs : List Value} {ts : List Int} (hl : (l, lstO (v0 :: vs) n) ∈ news) (hlen : vs.length ≤ 1000)
    (h0 : IsDec w.params news v0 t0) (h1 : AllD w.params news vs ts) :
    Does w p loose mean mg mb 187 12 news [.ref l] (fun nx r => IsDec w.params nx r (ts.foldl min t0)) := by
  have h0' := h0
  obtain ⟨x, d, k1, k2, top, u1, pl, u2, rfl, hx, hd, hc⟩ := h0'
  unfold Does
  k_fill
  intro dp un gd cn cs a ccd cl outer A₀ base h₀ L m s Q E B F X N T hk hd hu hret
  refine wpAny_call ?_
  k_dflt ktr_enter
  k_steps
  rename Fr _ _ _ _ => F1
  rename News _ _ _ _ => N1
  refine for_list (fun vs' m nx => ∃ ts' b tb, AllD w.params nx vs' ts' ∧ m (Str.ofString "best") = some b ∧ IsDec w.params nx b tb ∧ ts'.foldl min tb = ts.foldl min t0 ∧ ∀ p ∈ news, p ∈ nx) rfl F1 N1 (.head _) ⟨ts, _, t0, h1.mono fun _ h => .tail _ h, rfl, h0.mono fun _ h => .tail _ h, rfl, fun _ h => .tail _ h⟩ ?_ ?_
  · clear F1 N1
    rintro m nx h tk ⟨ts', b, tb, hA, hm, hb, he, hG⟩ F N
    cases hA
    rw [map_at hm] at F
    dsimp only
    k_steps
    have hb2 : IsDec w.params nx b (ts.foldl min t0) := by rw [← he]; exact hb
    exact retS hret (by k_asm) (by k_asm) hG fun nx' hs => IsDec.mono hb2 hs
  · clear F1 N1
    rintro I v vs' m nx h tk o ⟨ts', b, tb, hA, hm, hb, he, hG⟩ hoff hkD F N
    cases hA with
    | @cons _ t _ ts2 hv hA =>
      rw [map_at hm] at F
      have hb' := hb
      have hv' := hv
      obtain ⟨x1, d1, k3, k4, top1, u3, pl1, u4, rfl, hx1, hd1, hc1⟩ := hb'
      obtain ⟨x2, d2, k5, k6, top2, u5, pl2, u6, rfl, hx2, hd2, hc2⟩ := hv'
      k_steps
      · refine turn_end1 (by k_asm) (by k_asm) (by assumption) hoff hkD ⟨ts2, _, _, hA.mono (fun p h => List.mem_append.mpr (.inr h)), rfl, hv.mono (fun p h => List.mem_append.mpr (.inr h)), ?_, fun p hp => List.mem_append.mpr (.inr (hG p hp))⟩
        rw [List.foldl_cons] at he
        rw [← he, min_up (tb := tb) (t := t) (by assumption)]
      · refine turn_end1 (by k_asm) (by k_asm) (by assumption) hoff hkD ⟨ts2, _, _, hA.mono (fun p h => List.mem_append.mpr (.inr h)), rfl, hb.mono (fun p h => List.mem_append.mpr (.inr h)), ?_, fun p hp => List.mem_append.mpr (.inr (hG p hp))⟩
        rw [List.foldl_cons] at he
        rw [← he, min_keep (tb := tb) (t := t) (by assumption)]
theorem greatestD {news : Led} {l : Addr} {n : Nat} {v0 : Value} {t0 : Int} {vs : List Value} {ts : List Int} (hl : (l, lstO (v0 :: vs) n) ∈ news) (hlen : vs.length ≤ 1000)
    (h0 : IsDec w.params news v0 t0) (h1 : AllD w.params news vs ts) :
    Does w p loose mean mg mb 194 12 news [.ref l] (fun nx r => IsDec w.params nx r (ts.foldl max t0)) := by
  have h0' := h0
  obtain ⟨x, d, k1, k2, top, u1, pl, u2, rfl, hx, hd, hc⟩ := h0'
  unfold Does
  k_fill
  intro dp un gd cn cs a ccd cl outer A₀ base h₀ L m s Q E B F X N T hk hd hu hret
  refine wpAny_call ?_
  k_dflt ktr_enter
  k_steps
  rename Fr _ _ _ _ => F1
  rename News _ _ _ _ => N1
  refine for_list (fun vs' m nx => ∃ ts' b tb, AllD w.params nx vs' ts' ∧ m (Str.ofString "best") = some b ∧ IsDec w.params nx b tb ∧ ts'.foldl max tb = ts.foldl max t0 ∧ ∀ p ∈ news, p ∈ nx) rfl F1 N1 (.head _) ⟨ts, _, t0, h1.mono fun _ h => .tail _ h, rfl, h0.mono fun _ h => .tail _ h, rfl, fun _ h => .tail _ h⟩ ?_ ?_
  · clear F1 N1
    rintro m nx h tk ⟨ts', b, tb, hA, hm, hb, he, hG⟩ F N
    cases hA
    rw [map_at hm] at F
    dsimp only
    k_steps
    have hb2 : IsDec w.params nx b (ts.foldl max t0) := by rw [← he]; exact hb
    exact retS hret (by k_asm) (by k_asm) hG fun nx' hs => IsDec.mono hb2 hs
  · clear F1 N1
    rintro I v vs' m nx h tk o ⟨ts', b, tb, hA, hm, hb, he, hG⟩ hoff hkD F N
    cases hA with
    | @cons _ t _ ts2 hv hA =>
      rw [map_at hm] at F
      have hb' := hb
      have hv' := hv
      obtain ⟨x1, d1, k3, k4, top1, u3, pl1, u4, rfl, hx1, hd1, hc1⟩ := hb'
      obtain ⟨x2, d2, k5, k6, top2, u5, pl2, u6, rfl, hx2, hd2, hc2⟩ := hv'
      k_steps
      · refine turn_end1 (by k_asm) (by k_asm) (by assumption) hoff hkD ⟨ts2, _, _, hA.mono (fun p h => List.mem_append.mpr (.inr h)), rfl, hv.mono (fun p h => List.mem_append.mpr (.inr h)), ?_, fun p hp => List.mem_append.mpr (.inr (hG p hp))⟩
        rw [List.foldl_cons] at he
        rw [← he, max_up (tb := tb) (t := t) (by assumption)]
      · refine turn_end1 (by k_asm) (by k_asm) (by assumption) hoff hkD ⟨ts2, _, _, hA.mono (fun p h => List.mem_append.mpr (.inr h)), rfl, hb.mono (fun p h => List.mem_append.mpr (.inr h)), ?_, fun p hp => List.mem_append.mpr (.inr (hG p hp))⟩
        rw [List.foldl_cons] at he
        rw [← he, max_keep (tb := tb) (t := t) (by assumption)]
end
end Mine
end

section
open PySem PySem.W PyProof.Rows PyProof.Rows.LCg
set_option maxRecDepth 100000
set_option maxHeartbeats 8000000
namespace Mine

/-- where the k-th turn begins -/
def pos (ts : List Int) (ph : Int) : Nat → Int
  | 0 => - ph
  | k + 1 => pos ts ph k + ts.getD (k % ts.length) 0

/-- what the j-th turn draws -/
def drawn (ts : List Int) (ph T : Int) (j : Nat) : List (Int × Int) :=
  if j % 2 = 0 ∧ (0 < pos ts ph (j + 1) ∨ 0 ≤ pos ts ph j) then [(max (pos ts ph j) 0, min (pos ts ph (j + 1)) T)] else []

def spans (ts : List Int) (ph T : Int) : Nat → List (Int × Int)
  | 0 => []
  | k + 1 => spans ts ph T k ++ drawn ts ph T k

/-- a list of pairs of Decimals -/
inductive AllP (P : Params) (news : Led) : List Value → List (Int × Int) → Prop
  | nil : AllP P news [] []
  | cons {x : Addr} {v1 v2 : Value} {n : Nat} {t1 t2 : Int} {vs : List Value} {ts : List (Int × Int)} : (x, ({ cls := .type "tuple", data := .seq [v1, v2].toArray n } : Obj)) ∈ news → IsDec P news v1 t1 → IsDec P news v2 t2 → AllP P news vs ts →
      AllP P news (.ref x :: vs) ((t1, t2) :: ts)
theorem AllP.mono {P : Params} {news news' : Led} {vs : List Value} {ts : List (Int × Int)} (h : AllP P news vs ts) (hs : ∀ p ∈ news, p ∈ news') : AllP P news' vs ts := by
  induction h with
  | nil => exact .nil
  | cons h1 h2 h3 _ ih => exact .cons (hs _ h1) (h2.mono hs) (h3.mono hs) ih
theorem AllP.snoc {P : Params} {news : Led} {vs : List Value} {ts : List (Int × Int)} {v : Value} {t : Int × Int} (h : AllP P news vs ts) (h1 : AllP P news [v] [t]) : AllP P news (vs ++ [v]) (ts ++ [t]) := by
  induction h with
  | nil => exact h1
  | cons h1 h2 h3 _ ih => exact .cons h1 h2 h3 ih

theorem AllP.keep {P : Params} {led nx : Led} {f : Addr} {vs : List Value} {ts : List (Int × Int)} (h : AllP P led vs ts) (hk : ∀ p ∈ led, p.1 ≠ f ∨ p.2.cls ≠ .type "list" → p ∈ nx) : AllP P nx vs ts := by
  induction h with
  | nil => exact .nil
  | cons h1 h2 h3 _ ih => exact .cons (keep_ne hk h1 (by simp)) (h2.keep hk) (h3.keep hk) ih
theorem AllP.length {P : Params} {led : Led} {vs : List Value} {ts : List (Int × Int)} (h : AllP P led vs ts) : vs.length = ts.length := by
  induction h with
  | nil => rfl
  | cons _ _ _ _ ih => simp [ih]
theorem spans_len (ts : List Int) (ph T : Int) (k : Nat) : (spans ts ph T k).length ≤ k := by
  induction k with
  | zero => simp [spans]
  | succ k ih =>
    simp only [spans, List.length_append]
    have : (drawn ts ph T k).length ≤ 1 := by unfold drawn; split <;> simp
    omega
theorem AllP.kept {P : Params} {l0 led nx : Led} {f : Addr} {vs : List Value} {ts : List (Int × Int)} (hk : ∀ p ∈ led, p.1 ≠ f ∨ p.2.cls ≠ .type "list" → p ∈ nx) (h : AllP P l0 vs ts) (hs : ∀ p ∈ l0, p ∈ led) : AllP P nx vs ts := (h.mono hs).keep hk
theorem fmod2 {k : Nat} : Int.fmod (k : Int) 2 = 0 ↔ k % 2 = 0 := by
  rw [Int.fmod_eq_emod_of_nonneg _ (by omega)]; omega
theorem fm_lo {k n : Nat} : 0 ≤ Int.fmod (k : Int) (n : Int) := Int.fmod_nonneg (by omega) (by omega)
theorem fm_hi {k n : Nat} (h0 : 0 < n) (h : n ≤ 100000) : Int.fmod (k : Int) (n : Int) < 2 ^ 63 := by
  have := Int.fmod_lt_of_pos (k : Int) (b := (n : Int)) (by omega)
  omega
theorem item_at {α : Type} {l : List α} {k n : Nat} {v : α} (h : l[k % n]? = some v) : l[(Int.fmod (k : Int) (n : Int)).toNat]? = some v := by
  rw [Int.fmod_eq_emod_of_nonneg _ (by omega)]
  have : ((k : Int) % (n : Int)).toNat = k % n := by omega
  rw [this]; exact h
section
variable {w : World} {p : Program} {loose : List Str} {mean : ExcName → Option Value} {mg mb : Str → Option Value}
theorem cmp_lt {news : Led} {v1 v2 : Value} {t1 t2 : Int} (h1 : IsDec w.params news v1 t1) (h2 : IsDec w.params news v2 t2) (hlt : t1 < t2) : Does w p loose mean mg mb 110 8 news [v1, v2] (fun _ r => ∃ tk, r = .int (-1) tk) := by
  have h := cmpD (p := p) (loose := loose) (mean := mean) (mg := mg) (mb := mb) h1 h2
  rw [if_neg (by omega), if_neg (by omega)] at h
  exact h
theorem cmp_ge {news : Led} {v1 v2 : Value} {t1 t2 : Int} (h1 : IsDec w.params news v1 t1) (h2 : IsDec w.params news v2 t2) (hge : t2 ≤ t1) : Does w p loose mean mg mb 110 8 news [v1, v2] (fun _ r => ∃ c tk, 0 ≤ c ∧ r = .int c tk) := by
  intro dp un gd cn cs a ccd cl outer A₀ base h₀ L m s Q E B F X N T hk hd hu hret
  refine cmpD h1 h2 dp un gd cn cs a ccd cl outer A₀ base h₀ L m s Q E B F X N T hk hd hu fun r tl h' tk' F' N' l' P' => hret r tl h' tk' F' N' l' ?_
  obtain ⟨tk, rfl⟩ := P'
  exact ⟨_, tk, by (repeat' split) <;> omega, rfl⟩
end
theorem map5 {m : Str → Option Value} {x1 x2 x3 x4 x5 : Str} {v1 v2 v3 v4 v5 : Value} (h1 : m x1 = some v1) (h2 : m x2 = some v2) (h3 : m x3 = some v3) (h4 : m x4 = some v4) (h5 : m x5 = some v5) :
    m = fun y => if y = x1 then some v1 else if y = x2 then some v2 else if y = x3 then some v3 else if y = x4 then some v4 else if y = x5 then some v5 else m y := by
  funext y
  by_cases e1 : y = x1
  · subst e1; simp [h1]
  by_cases e2 : y = x2
  · subst e2; simp [e1, h2]
  by_cases e3 : y = x3
  · subst e3; simp [e1, e2, h3]
  by_cases e4 : y = x4
  · subst e4; simp [e1, e2, e3, h4]
  by_cases e5 : y = x5
  · subst e5; simp [e1, e2, e3, e4, h5]
  simp [e1, e2, e3, e4, e5]

/-- what holds each time the loop looks at its test -/
def DInv (P : Params) (ts : List Int) (ph T : Int) (vs : List Value) (nx0 : Led) (x : Addr) (n : Nat) (m : Str → Option Value) (nx : Led) : Prop :=
  ∃ (Lb : Led) (k : Nat) (items : List Value) (nf : Nat) (f D : Addr) (nD : Nat) (at' : Value) (tk : Tok), n = 400 - k ∧ m (Str.ofString "turn") = some (.int (k : Int) tk) ∧ m (Str.ofString "at") = some at' ∧ m (Str.ofString "found") = some (.ref f) ∧ m (Str.ofString "steps") = some (.ref D) ∧ m (Str.ofString "total") = some (.ref x) ∧
      IsDec P nx at' (pos ts ph k) ∧ (f, lstO items nf) ∈ nx ∧ AllP P nx items (spans ts ph T k) ∧ (∀ j < k, pos ts ph j < T) ∧ (∀ p ∈ nx0, p ∈ Lb) ∧ (D, lstO vs nD) ∈ Lb ∧ (∀ p ∈ Lb, p.1 ≠ f) ∧ ∀ p ∈ Lb, p ∈ nx
theorem DInv.start {P : Params} {ts : List Int} {ph T : Int} {vs : List Value} {nx0 Lb : Led} {x f D : Addr} {m : Str → Option Value} {nf nD : Nat} {at' : Value} {tk : Tok} (m1 : m (Str.ofString "turn") = some (.int 0 tk)) (m2 : m (Str.ofString "at") = some at') (m3 : m (Str.ofString "found") = some (.ref f)) (m4 : m (Str.ofString "steps") = some (.ref D)) (m5 : m (Str.ofString "total") = some (.ref x))
    (h1 : IsDec P Lb at' (-ph)) (h2 : ∀ p ∈ nx0, p ∈ Lb) (h3 : (D, lstO vs nD) ∈ Lb) (h4 : ∀ p ∈ Lb, p.1 < f) : DInv P ts ph T vs nx0 x 400 m ((f, lstO [] nf) :: Lb) :=
  ⟨Lb, 0, [], nf, f, D, nD, at', tk, rfl, m1, m2, m3, m4, m5, h1.mono fun _ h => .tail _ h, .head _, .nil, fun j h => absurd h (Nat.not_lt_zero _), h2, h3, fun p hp => Nat.ne_of_lt (h4 p hp), fun _ h => .tail _ h⟩
theorem DInv.step {P : Params} {ts : List Int} {ph T : Int} {vs items : List Value} {nx0 nx Lb : Led} {x f D : Addr} {n k nf nD : Nat} {m : Str → Option Value} {at' : Value} {tk : Tok} (hn : n = 400 - (k + 1)) (m1 : m (Str.ofString "turn") = some (.int ((k : Int) + 1) tk)) (m2 : m (Str.ofString "at") = some at') (m3 : m (Str.ofString "found") = some (.ref f)) (m4 : m (Str.ofString "steps") = some (.ref D)) (m5 : m (Str.ofString "total") = some (.ref x))
    (h1 : IsDec P nx at' (pos ts ph (k + 1))) (h6 : (f, lstO items nf) ∈ nx) (h7 : AllP P nx items (spans ts ph T (k + 1))) (h8 : ∀ j < k, pos ts ph j < T) (h9 : pos ts ph k < T) (h2 : ∀ p ∈ nx0, p ∈ Lb) (h3 : (D, lstO vs nD) ∈ Lb) (h4 : ∀ p ∈ Lb, p.1 ≠ f) (h5 : ∀ p ∈ Lb, p ∈ nx) : DInv P ts ph T vs nx0 x n m nx :=
  ⟨Lb, k + 1, items, nf, f, D, nD, at', tk, hn, m1, m2, m3, m4, m5, h1, h6, h7, fun j hj => by
    rcases Nat.lt_succ_iff_lt_or_eq.mp hj with h | h
    · exact h8 j h
    · exact h ▸ h9, h2, h3, h4, h5⟩

/-- what a test says, the heap as it was -/
def MidB (s : Shared) (C : Prop) (b : Bool) (s' : Shared) : Prop := (∃ tk, s' = { s with toks := tk }) ∧ (b = true ↔ C)
theorem MidB.yes {s : Shared} {C : Prop} {tk : Nat} (h : C) : MidB s C true { s with toks := tk } := ⟨⟨tk, rfl⟩, fun _ => h, fun _ => rfl⟩
theorem MidB.no {s : Shared} {C : Prop} {tk : Nat} (h : ¬ C) : MidB s C false { s with toks := tk } := ⟨⟨tk, rfl⟩, ⟨fun e => Bool.noConfusion e, fun c => absurd c h⟩⟩
theorem cutB {M : Model} {A : Around} {E : Value → Shared → Prop} {t : Sem Bool} {s : Shared} {Q : Bool → Shared → Prop} (C : Prop) (h1 : wpAny M A t (MidB s C) E s) (h2 : ∀ tk, C → Q true { s with toks := tk }) (h3 : ∀ tk, ¬ C → Q false { s with toks := tk }) : wpAny M A t Q E s :=
  wpAny_mono h1 (fun b s' hm => by
    obtain ⟨⟨tk, rfl⟩, hi⟩ := hm
    cases b with
    | true => exact h2 tk (hi.mp rfl)
    | false => exact h3 tk fun c => Bool.noConfusion (hi.mpr c)) fun _ _ e => e
local macro_rules | `(tactic| k_room) => `(tactic| ktr_room)
local macro_rules | `(tactic| k_mem) => `(tactic| first | exact List.mem_cons_self | (refine List.mem_cons_of_mem _ ?_; k_mem))
local macro_rules | `(tactic| walk_at $s:str) => `(tactic| k_extra $s)
theorem words_C5_1 : True := by
  k_with_none
  (k_with "M dec" => first | assumption | exact IsDec.mono (by assumption) (by ktd_sub))
  (k_with "exec Assign cons ListComp" => (k_here; k_dflt (refine LCg.Assign_ListComp_U (F₀ := by k_asm) (by rfl) (by with_unfolding_all rfl) (by rfl) (by decide) (by rfl) (by decide) (by rfl) (by rfl) (by rfl) ?_)))
  (k_with "CompSrc" => (k_here; k_dflt (refine LCg.CompSrc.ledger (by rfl) (by k_asm) (by k_asm) (by k_mem) (by (simp [sizeLine_eq]; omega)) ?_; intro _)))
  (k_with "ite" => (k_here; k_openite; (refine ite_neg (by (simp only [beq_iff_eq]; omega)) ?_)))
  (k_with "exec While" => (k_here; (with_reducible show wpAny _ _ (exec (Stmt.While _ _ _ _) _) _ _ _); refine Stop.out ?_))
  (k_with "compareOp Eq ref ref" => (k_here; (with_reducible show wpAny _ _ (compareOp CmpOp.Eq (Value.ref _) (Value.ref _)) _ _ _); k_dflt (refine cmp_ofEq (PySem.SeqAt.RcAt.lists_lengths (News.isList (by k_asm) (by k_mem)) (News.isList (by k_asm) (by k_mem)) (by simp) (by ktr_units) _ _ _ _ ?_))))
  (k_with "compareOp NotEq ref ref" => (k_here; (with_reducible show wpAny _ _ (compareOp CmpOp.NotEq (Value.ref _) (Value.ref _)) _ _ _); k_dflt (refine cmp_ofNotEq (PySem.SeqAt.RcNeAt.lists_lengths (News.isList (by k_asm) (by k_mem)) (News.isList (by k_asm) (by k_mem)) (by simp) (by ktr_units) _ _ _ _ ?_))))
  (k_with "M all" => first | assumption | exact AllD.mono (by assumption) (by ktd_sub) | exact AllD.nil | exact AllD.cons (by k_extra "M dec") (by k_extra "M all"))
  (k_with "call ref" => (k_here; (with_reducible show wpAny _ _ (call (Value.ref 187) [Value.ref _]) _ _ _); k_dflt (refine' does_use ?kB ?kF ?kX ?kN ?kT ?kK (leastD ?l1 ?l2 ?l3 ?l4) ?hd ?hu ?_; (case kB => k_asm); (case kF => k_asm); (case kX => k_asm); (case kN => k_asm); (case kT => k_asm); (case kK => first | exact rfl | assumption); (case l1 => k_mem); (case l2 => first | assumption | (simp; done) | (simp; omega)); (case l3 => k_extra "M dec"); (case l4 => k_extra "M all"); (case hd => ktr_room); (case hu => ktr_units); k_whole; intro _ _ _ _ _ _ _ _; obtain ⟨_, _, _, _, _, _, _, _, rfl, _, _, _⟩ := id ‹IsDec _ _ _ _›; (try dsimp only); (try k_fold))))
  (k_with "call ref" => (k_here; (with_reducible show wpAny _ _ (call (Value.ref 194) [Value.ref _]) _ _ _); k_dflt (refine' does_use ?kB ?kF ?kX ?kN ?kT ?kK (greatestD ?l1 ?l2 ?l3 ?l4) ?hd ?hu ?_; (case kB => k_asm); (case kF => k_asm); (case kX => k_asm); (case kN => k_asm); (case kT => k_asm); (case kK => first | exact rfl | assumption); (case l1 => k_mem); (case l2 => first | assumption | (simp; done) | (simp; omega)); (case l3 => k_extra "M dec"); (case l4 => k_extra "M all"); (case hd => ktr_room); (case hu => ktr_units); k_whole; intro _ _ _ _ _ _ _ _; obtain ⟨_, _, _, _, _, _, _, _, rfl, _, _, _⟩ := id ‹IsDec _ _ _ _›; (try dsimp only); (try k_fold))))
  (k_with "call ref" => (k_here; (with_reducible show wpAny _ _ (call (Value.ref 103) _) _ _ _); k_dflt (refine' does_use ?kB ?kF ?kX ?kN ?kT ?kK (negD ?l1) ?hd ?hu ?_; (case kB => k_asm); (case kF => k_asm); (case kX => k_asm); (case kN => k_asm); (case kT => k_asm); (case kK => first | exact rfl | assumption); (case l1 => k_extra "M dec"); (case hd => ktr_room); (case hu => ktr_units); k_whole; intro _ _ _ _ _ _ _ _; obtain ⟨_, _, _, _, _, _, _, _, rfl, _, _, _⟩ := id ‹IsDec _ _ _ _›; (try dsimp only); (try k_fold))))
  (k_with "call ref" => (k_here; (with_reducible show wpAny _ _ (call (Value.ref 110) [_, _]) _ _ _); k_dflt (refine' does_use ?kB ?kF ?kX ?kN ?kT ?kK (cmp_ge ?l1 ?l2 ?l3) ?hd ?hu ?_; (case kB => k_asm); (case kF => k_asm); (case kX => k_asm); (case kN => k_asm); (case kT => k_asm); (case kK => first | exact rfl | assumption); (case l1 => k_extra "M dec"); (case l2 => k_extra "M dec"); (case l3 => assumption); (case hd => ktr_room); (case hu => ktr_units); k_whole; intro _ _ _ _ _ _ _ P9; obtain ⟨_, _, _, rfl⟩ := P9; (try dsimp only); (try k_fold))))
  (k_with "call ref" => (k_here; (with_reducible show wpAny _ _ (call (Value.ref 110) [_, _]) _ _ _); k_dflt (refine' does_use ?kB ?kF ?kX ?kN ?kT ?kK (cmp_lt ?l1 ?l2 ?l3) ?hd ?hu ?_; (case kB => k_asm); (case kF => k_asm); (case kX => k_asm); (case kN => k_asm); (case kT => k_asm); (case kK => first | exact rfl | assumption); (case l1 => k_extra "M dec"); (case l2 => k_extra "M dec"); (case l3 => assumption); (case hd => ktr_room); (case hu => ktr_units); k_whole; intro _ _ _ _ _ _ _ P9; obtain ⟨_, rfl⟩ := P9; (try dsimp only); (try k_fold))))
  (k_with "call ref" => (k_here; (with_reducible show wpAny _ _ (call (Value.ref 82) [_, _]) _ _ _); k_dflt (refine' does_use ?kB ?kF ?kX ?kN ?kT ?kK (plusD ?l1 ?l2) ?hd ?hu ?_; (case kB => k_asm); (case kF => k_asm); (case kX => k_asm); (case kN => k_asm); (case kT => k_asm); (case kK => first | exact rfl | assumption); (case l1 => k_extra "M dec"); (case l2 => k_extra "M dec"); (case hd => ktr_room); (case hu => ktr_units); k_whole; intro _ _ _ _ _ _ _ _; obtain ⟨_, _, _, _, _, _, _, _, rfl, _, _, _⟩ := id ‹IsDec _ _ _ _›; (try dsimp only); (try k_fold))))
  (k_with "call ref" => (k_here; (with_reducible show wpAny _ _ (call (Value.ref 173) [Value.ref _]) _ _ _); k_dflt (refine' does_use ?kB ?kF ?kX ?kN ?kT ?kK (decD ?l1) ?hd ?hu ?_; (case kB => k_asm); (case kF => k_asm); (case kX => k_asm); (case kN => k_asm); (case kT => k_asm); (case kK => first | exact rfl | assumption); (case l1 => k_extra "M dec"); (case hd => ktr_room); (case hu => ktr_units); k_whole; intro _ _ _ _ _ N9 l9 P9; obtain ⟨rfl, hn9⟩ := P9; have hn8 := tl_nil hn9; subst hn8; clear hn9 l9; (try simp only [List.nil_append] at N9); revert N9; intro _; (try dsimp only); (try k_fold))))
  (k_with "call ref" => (k_here; (with_reducible show wpAny _ _ (call (Value.ref 173) [Value.int _ _]) _ _ _); k_dflt (refine' does_use ?kB ?kF ?kX ?kN ?kT ?kK (decI) ?hd ?hu ?_; (case kB => k_asm); (case kF => k_asm); (case kX => k_asm); (case kN => k_asm); (case kT => k_asm); (case kK => first | exact rfl | assumption); (case hd => ktr_room); (case hu => ktr_units); k_whole; intro _ _ _ _ _ _ _ _; obtain ⟨_, _, _, _, _, _, _, _, rfl, _, _, _⟩ := id ‹IsDec _ _ _ _›; (try dsimp only); (try k_fold))))
  (k_with "subscriptTail" => (k_here; (with_reducible show wpAny _ _ (subscriptTail _ _ (Value.ref _) (Value.int _ _)) _ _ _); k_dflt (refine' item_listL ?k1 ?k2 ?k3 ?k4 ?_ ?k5 ?k6; (case k1 => exact News.isList (by k_asm) (by k_mem)); (case k4 => exact item_at (by assumption)); (case k2 => exact fm_lo); (case k3 => exact fm_hi (Nat.succ_pos _) (by omega)); (case k5 => with_unfolding_all rfl); (case k6 => intro _; with_unfolding_all rfl); k_whole)))
  (k_with "call builtin:len" => (k_here; (with_reducible show wpAny _ _ (call (Value.builtin "len") [Value.ref _]) _ _ _); k_dflt (refine' len_led ?k1 ?k2 ?k3 ?k4 ?_; (case k1 => k_asm); (case k2 => k_mem); (case k3 => first | exact List.length_cons | exact rfl); (case k4 => omega); k_whole)))
  (k_with "call builtin:list.append" => (k_here; (with_reducible show wpAny _ _ (call (Value.builtin "list.append") [Value.ref _, _]) _ _ _); k_dflt (refine' append_led ?k1 ?k2 ?k3 ?k4 ?_; (case k1 => k_asm); (case k2 => k_asm); (case k3 => k_mem); (case k4 => assumption); k_whole; intro _ _ _ _ _ _ _; (try dsimp only))))
  trivial
section
variable {w : World} {p : Program} {loose : List Str} {mean : ExcName → Option Value} {mg mb : Str → Option Value}

theorem dashD {news : Led} {l : Addr} {n : Nat} {v0 vT vP : Value} {t0 T ph : Int} {vs : List Value} {ts : List Int} (hl : (l, lstO (v0 :: vs) n) ∈ news) (hlen : vs.length ≤ 1000)
    (h0 : IsDec w.params news v0 t0) (h1 : AllD w.params news vs ts) (hT : IsDec w.params news vT T) (hP : IsDec w.params news vP ph)
    (hmin : 0 ≤ ts.foldl min t0) (hmax : 0 < ts.foldl max t0) (hph : 0 ≤ ph) (hTp : 0 < T) (hb : ∀ k, pos (t0 :: ts) ph k < T → k < 400) :
    Does w p loose mean mg mb 199 20 news [vT, .ref l, vP] (fun nx r => ∃ k f vs' n', r = .ref f ∧ (f, lstO vs' n') ∈ nx ∧ AllP w.params nx vs' (spans (t0 :: ts) ph T k) ∧ T ≤ pos (t0 :: ts) ph k ∧ ∀ j < k, pos (t0 :: ts) ph j < T) := by
  have hT' := hT
  have hP' := hP
  obtain ⟨x, d, k1, k2, top, u1, pl, u2, rfl, hx, hxd, hc⟩ := hT'
  obtain ⟨y, e, k3, k4, bot, u3, ql, u4, rfl, hy, hyd, hq⟩ := hP'
  unfold Does
  k_fill
  intro dp un gd cn cs a ccd cl outer A₀ base h₀ L m s Q E B F X N TT hk hd hu hret
  refine wpAny_call ?_
  k_dflt ktr_enter
  k_steps
  refine comp_ind (fun i ys nx => ys = (v0 :: vs).take i ∧ ∀ p ∈ news, p ∈ nx) ?_ ?_ (by first | exact Or.inr ⟨_, hl, rfl, _, rfl⟩) ⟨rfl, fun _ h => h⟩
  · rintro ys nx ⟨hys, hG⟩
    rw [List.size_toArray, List.take_length] at hys
    subst hys
    clear hl
    have h02 := h0.mono hG
    have h12 := h1.mono hG
    have hT2 := hT.mono hG
    have hP2 := hP.mono hG
    have hx2 := hG _ hx
    have hxd2 := hG _ hxd
    have hy2 := hG _ hy
    have hyd2 := hG _ hyd
    k_steps
    refine Stop.mk ?_
    rename Fr _ _ _ _ => F1
    rename News _ _ _ _ => N1
    have hpos : ∀ k, (t0 :: ts).getD (k % (t0 :: ts).length) 0 = (t0 :: ts).getD (k % (vs.length + 1)) 0 := fun k => by rw [h1.length]; rfl
    refine While_inv2 (J := DInv w.params (t0 :: ts) ph T (v0 :: vs) nx x) F1 N1 (DInv.start rfl rfl rfl rfl rfl (by assumption) ?_ (by k_mem) (by assumption)) ?_
    · intro p hp
      simp only [List.mem_append, List.mem_cons, hp, or_true]
    clear F1 N1
    rintro n m₁ nx₁ h₁ tk₁ F₁ N₁ ⟨Lb, k, items, nf, f, D, nD, at', tk, hn, m1, m2, m3, m4, m5, i1, i2, i3, i4, i5, i6, i7, i8⟩
    rw [map5 m1 m2 m3 m4 m5] at F₁
    have hT3 : IsDec w.params nx₁ (.ref x) T := hT2.mono fun p hp => i8 p (i5 p hp)
    have hx3 := i8 _ (i5 _ hx2)
    have hxd3 := i8 _ (i5 _ hxd2)
    have i1' := i1
    obtain ⟨x3, d3, k5, k6, top3, u5, pl3, u6, rfl, hx4, hxd4, hc3⟩ := i1'
    have hD3 := i8 _ i6
    have hlk := spans_len (t0 :: ts) ph T k
    have hik := i3.length
    by_cases hlt : pos (t0 :: ts) ph k < T
    · have hk4 := hb k hlt
      have hil : items.length ≤ 100000 := by omega
      have hmod : k % (vs.length + 1) < (v0 :: vs).length := Nat.mod_lt _ (Nat.succ_pos _)
      obtain ⟨vk, hvk⟩ : ∃ v, (v0 :: vs)[k % (vs.length + 1)]? = some v := ⟨_, List.getElem?_eq_getElem hmod⟩
      have hA3 : AllD w.params nx₁ (v0 :: vs) (t0 :: ts) := .cons (h02.mono fun p hp => i8 p (i5 p hp)) (h12.mono fun p hp => i8 p (i5 p hp))
      obtain ⟨tk', htk', hvd⟩ := hA3.get hvk
      have hnext : pos (t0 :: ts) ph (k + 1) = pos (t0 :: ts) ph k + tk' := by
        show _ + _ = _
        rw [hpos, List.getD_eq_getElem?_getD, htk']; rfl
      (k_with "isTrue BoolOp" => (k_here; (with_reducible show wpAny _ _ (isTrue (PySem.Expr.BoolOp PySem.BoolOp.And _ _) _ _) _ _ _); (fail_if_success (with_reducible show wpAny _ _ _ (MidB _ _) _ _)); refine Stop.out ?_))
      k_steps
      refine Stop.mk ?_
      refine cutB (k % 2 = 0 ∧ (0 < pos (t0 :: ts) ph (k + 1) ∨ 0 ≤ pos (t0 :: ts) ph k)) ?_ ?_ ?_
      · k_steps
        · exact MidB.yes ⟨fmod2.mp (by assumption), .inl (by omega)⟩
        · exact MidB.yes ⟨fmod2.mp (by assumption), .inr (by omega)⟩
        · exact MidB.no fun q => by omega
        · exact MidB.no fun q => by have := fmod2.mpr q.1; contradiction
      · intro tk8 hC
        have hdr : drawn (t0 :: ts) ph T k = [(max (pos (t0 :: ts) ph k) 0, min (pos (t0 :: ts) ph k + tk') T)] := by
          unfold drawn; rw [if_pos hC, hnext]
        k_steps
        refine ⟨_, _, _, _, 400 - (k + 1), rfl, by k_asm, by k_asm, by omega, DInv.step (items := items ++ [_]) rfl rfl rfl rfl rfl rfl ?_ (by assumption) ?_ i4 hlt i5 i6 i7 ?_⟩
        · rw [hnext]; exact IsDec.kept (by assumption) (by assumption) (by ktd_sub)
        · show AllP _ _ _ (spans _ _ _ _ ++ drawn _ _ _ _)
          rw [hdr]
          exact AllP.snoc (AllP.kept (by assumption) i3 (by ktd_sub)) (.cons (keep_ne (by assumption) (.head _) (by simp)) (IsDec.kept (by assumption) (by assumption) (by ktd_sub)) (IsDec.kept (by assumption) (by assumption) (by ktd_sub)) .nil)
        · exact led_kept (by assumption) i7 fun p hp => (by ktd_sub : ∀ p ∈ nx₁, p ∈ _) p (i8 p hp)
      · intro tk8 hC
        have hdr : drawn (t0 :: ts) ph T k = [] := by
          unfold drawn; rw [if_neg hC]
        k_steps
        refine ⟨_, _, _, _, 400 - (k + 1), rfl, by k_asm, by k_asm, by omega, DInv.step (items := items) (nf := nf) rfl rfl rfl rfl rfl rfl ?_ ?_ ?_ i4 hlt i5 i6 i7 ?_⟩
        · rw [hnext]; assumption
        · exact (by ktd_sub : ∀ p ∈ nx₁, p ∈ _) _ i2
        · show AllP _ _ _ (spans _ _ _ _ ++ drawn _ _ _ _)
          rw [hdr, List.append_nil]
          exact i3.mono (by ktd_sub)
        · exact fun p hp => (by ktd_sub : ∀ p ∈ nx₁, p ∈ _) p (i8 p hp)
    · have hge : T ≤ pos (t0 :: ts) ph k := by omega
      k_steps
      exact retS hret (by k_asm) (by k_asm) (fun p hp => List.mem_append.mpr (.inr (i8 p (i5 p (hG p hp))))) fun nx' hs => ⟨k, f, items, nf, rfl, hs _ (List.mem_append.mpr (.inr i2)), i3.mono fun p hp => hs p (List.mem_append.mpr (.inr hp)), hge, i4⟩
  · rintro i v ys nx I oI C oC D m₂ h tk E' hi hv ⟨rfl, hG⟩ hS hC hx F N o ne
    have hA : AllD w.params nx (v0 :: vs) (t0 :: ts) := .cons (h0.mono hG) (h1.mono hG)
    have hv2 : (v0 :: vs)[i]? = some v := by simpa using hv
    obtain ⟨t, ht, hv3⟩ := hA.get hv2
    obtain ⟨x1, d1, k3, k4, top1, u3, pl1, u4, rfl, hx1, hd1, hc1⟩ := hv3
    k_steps
    refine comp_end0 (by k_asm) (by k_asm) o hS ⟨take_snoc hv2, hG⟩
end
end Mine
end

section
open PySem PySem.W PyProof.Rows PyProof.Rows.LCg PyProof.Rows.LCp
set_option maxRecDepth 100000
set_option maxHeartbeats 1000000
namespace Mine

/-- a list of pairs of ints -/
inductive AllT (news : Led) : List Value → List (Int × Int) → Prop
  | nil : AllT news [] []
  | cons {x : Addr} {a b : Int} {t1 t2 : Tok} {n : Nat} {vs : List Value} {ts : List (Int × Int)} : (x, ({ cls := .type "tuple", data := .seq [.int a t1, .int b t2].toArray n } : Obj)) ∈ news → AllT news vs ts → AllT news (.ref x :: vs) ((a, b) :: ts)
theorem AllT.mono {news news' : Led} {vs : List Value} {ts : List (Int × Int)} (h : AllT news vs ts) (hs : ∀ p ∈ news, p ∈ news') : AllT news' vs ts := by
  induction h with
  | nil => exact .nil
  | cons h1 _ ih => exact .cons (hs _ h1) ih
theorem AllT.snoc {news : Led} {vs : List Value} {ts : List (Int × Int)} {v : Value} {t : Int × Int} (h : AllT news vs ts) (h1 : AllT news [v] [t]) : AllT news (vs ++ [v]) (ts ++ [t]) := by
  induction h with
  | nil => exact h1
  | cons h1 _ ih => exact .cons h1 ih
theorem AllT.length {news : Led} {vs : List Value} {ts : List (Int × Int)} (h : AllT news vs ts) : vs.length = ts.length := by
  induction h with
  | nil => rfl
  | cons _ _ ih => simp [ih]
theorem AllP.get {P : Params} {news : Led} {vs : List Value} {ts : List (Int × Int)} (h : AllP P news vs ts) : ∀ {i : Nat} {v : Value}, vs[i]? = some v → ∃ x v1 v2 n t1 t2, v = .ref x ∧ ts[i]? = some (t1, t2) ∧ (x, ({ cls := .type "tuple", data := .seq [v1, v2].toArray n } : Obj)) ∈ news ∧ IsDec P news v1 t1 ∧ IsDec P news v2 t2 := by
  induction h with
  | nil => intro i v e; simp at e
  | cons h1 h2 h3 _ ih =>
    intro i v e
    cases i with
    | zero => simp at e; subst e; exact ⟨_, _, _, _, _, _, rfl, rfl, h1, h2, h3⟩
    | succ i => simpa using ih (by simpa using e)
theorem span_size {P : Params} {led : Led} {vs : List Value} {ts : List Int} {ph T : Int} {k : Nat} (hA : AllP P led vs (spans ts ph T k)) (hlt : ∀ j < k, pos ts ph j < T) (hb : ∀ k, pos ts ph k < T → k < 400) : vs.length ≤ 400 := by
  rw [hA.length]
  have h1 := spans_len ts ph T k
  rcases Nat.eq_zero_or_pos k with h | h
  · omega
  · have := hb (k - 1) (hlt (k - 1) (by omega))
    omega
theorem ledOf {P : Params} {LB : Led} {vs : List Value} {ts : List (Int × Int)} (_h : AllP P LB vs ts) : ∃ L', L' = LB := ⟨_, rfl⟩
theorem dec_tenths {pl t top : Int} (h : (pl = 0 ∧ t = 10 * top) ∨ (pl = 1 ∧ t = top)) : top * 10 ^ (1 - pl).toNat = t := by
  rcases h with ⟨rfl, rfl⟩ | ⟨rfl, rfl⟩
  · simp; omega
  · simp
theorem AllD.snoc {P : Params} {news : Led} {vs : List Value} {ts : List Int} {v : Value} {t : Int} (h : AllD P news vs ts) (h1 : IsDec P news v t) : AllD P news (vs ++ [v]) (ts ++ [t]) := h.append (.cons h1 .nil)

section
local macro_rules | `(tactic| k_room) => `(tactic| ktr_room)
local macro_rules | `(tactic| k_mem) => `(tactic| first | exact List.mem_cons_self | (refine List.mem_cons_of_mem _ ?_; k_mem))
local macro_rules | `(tactic| walk_at $s:str) => `(tactic| k_extra $s)
theorem words_C6_1 : True := by
  k_with_none
  (k_with "M dec" => first | assumption | exact IsDec.mono (by assumption) (by ktd_sub))
  (k_with "M all" => first | assumption | exact AllD.mono (by assumption) (by ktd_sub))
  (k_with "binaryOp Pow int int" => (k_here; (with_reducible refine pow_int_small ?kb1 ?kb2 ?kb3 ?_); (case kb1 => omega); (case kb2 => omega); (case kb3 => decide)))
  (k_with "binaryOp Mult int int" => (k_here; (with_reducible refine PyProof.Rows.mul_int ?_ ?kb1); rotate_left; (case kb1 => exact pow10_ok (by omega))))
  (k_with "eval ListComp" => (k_here; (with_reducible show wpAny _ _ (eval (PySem.Expr.ListComp _ [⟨PySem.Expr.Tuple _ _ _, _, [], _⟩] _ _) _) _ _ _); k_dflt (refine LCp.ListComp_P (F₀ := by k_asm) (by with_unfolding_all rfl) (by decide) (by rfl) (by decide) (by rfl) (by rfl) (by decide) ?_)))
  (k_with "eval ListComp" => (k_here; (with_reducible show wpAny _ _ (eval (PySem.Expr.ListComp _ [⟨PySem.Expr.Name _ _, _, [], _⟩] _ _) _) _ _ _); k_dflt (refine LCg.ListComp_U (F₀ := by k_asm) (by rfl) (by decide) (by rfl) (by decide) (by rfl) ?_)))
  (k_with "CompSrc" => (k_here; k_dflt (refine LCg.CompSrc.ledger (by rfl) (by k_asm) (by k_asm) (by k_mem) (by (simp [sizeLine_eq]; omega)) ?_; intro _; refine Stop.out ?_)))
  (k_with "SrcLP" => (k_here; k_dflt (refine LCp.SrcLP.ledger (by rfl) (by k_asm) (by k_asm) (by k_mem) (by (have hz := span_size (by assumption) (by assumption) (by assumption); simp [sizeLine_eq]; omega)) ?_; intro _; refine Stop.out ?_)))
  (k_with "call ref" => (k_here; (with_reducible show wpAny _ _ (call (Value.ref 155) [Value.int _ _, Value.int _ _]) _ _ _); k_dflt (refine' does_use ?kB ?kF ?kX ?kN ?kT ?kK (mkN (pl := 1) (Or.inr ⟨rfl, rfl⟩)) ?hd ?hu ?_; (case kB => k_asm); (case kF => k_asm); (case kX => k_asm); (case kN => k_asm); (case kT => k_asm); (case kK => first | exact rfl | assumption); (case hd => ktr_room); (case hu => ktr_units); k_whole; intro _ _ _ _ _ _ _ P9; obtain ⟨tl8, e8, P8⟩ := P9; have e7 := List.append_cancel_right e8; clear e8; subst e7; revert P8; intro _; (try dsimp only); (try k_fold))))
  (k_with "call ref" => (k_here; (with_reducible show wpAny _ _ (call (Value.ref 199) [_, _, _]) _ _ _); k_dflt (refine' does_use ?kB ?kF ?kX ?kN ?kT ?kK (dashD ?l1 ?l2 ?l3 ?l4 ?l5 ?l6 ?l7 ?l8 ?l9 ?l10 ?l11) ?hd ?hu ?_; (case kB => k_asm); (case kF => k_asm); (case kX => k_asm); (case kN => k_asm); (case kT => k_asm); (case kK => first | exact rfl | assumption); (case l1 => k_mem); (case l2 => assumption); (case l3 => k_extra "M dec"); (case l4 => k_extra "M all"); (case l5 => k_extra "M dec"); (case l6 => k_extra "M dec"); (case l7 => assumption); (case l8 => assumption); (case l9 => assumption); (case l10 => assumption); (case l11 => assumption); (case hd => ktr_room); (case hu => ktr_units); k_whole; intro _ _ _ _ _ _ _ P9; obtain ⟨_, _, _, _, rfl, _, _, _, _⟩ := P9; (try dsimp only); (try k_fold))))
  trivial
variable {w : World} {p : Program} {loose : List Str} {mean : ExcName → Option Value} {mg mb : Str → Option Value}

theorem lawSpans {news : Led} {l : Addr} {n : Nat} {T ph s0 : Int} {tT tP : Tok} {vs : List Value} {sr : List Int} (hl : (l, lstO vs n) ∈ news) (hi : IntsAre vs (s0 :: sr)) (hlen : sr.length ≤ 100)
    (hmin : 0 ≤ sr.foldl min s0) (hmax : 0 < sr.foldl max s0) (hph : 0 ≤ ph) (hTp : 0 < T) (hb : ∀ k, pos (s0 :: sr) ph k < T → k < 400) :
    Does w p loose mean mg mb 216 26 news [.int T tT, .ref l, .int ph tP] (fun nx r => ∃ k f vs' n', r = .ref f ∧ (f, lstO vs' n') ∈ nx ∧ AllT nx vs' (spans (s0 :: sr) ph T k) ∧ T ≤ pos (s0 :: sr) ph k ∧ ∀ j < k, pos (s0 :: sr) ph j < T) := by
  have hvl : vs.length = sr.length + 1 := hi.length
  unfold Does
  k_fill
  intro dp un gd cn cs a ccd cl outer A₀ base h₀ L m s Q E B F X N TT hk hd hu hret
  refine wpAny_call ?_
  k_dflt ktr_enter
  k_steps
  refine Stop.mk ?_
  rename_i r9 tl9 h9 tk9 F9 N9 l9 P9 g9
  refine comp_ind (fun i ys nx => AllD w.params nx ys ((s0 :: sr).take i) ∧ ∀ p ∈ tl9 ++ news, p ∈ nx) ?_ ?_ (Or.inr ⟨_, List.mem_append.mpr (.inr hl), rfl, _, rfl⟩) ⟨.nil, fun _ h => h⟩
  · rintro ys nx ⟨hA, hG⟩
    rw [List.size_toArray, hvl, show (s0 :: sr).take (sr.length + 1) = s0 :: sr by simp] at hA
    cases hA with
    | @cons v0 _ vr _ h0 h1 =>
      have hT2 := P9.mono fun p hp => hG p (List.mem_append.mpr (.inl hp))
      have hl2 : vr.length ≤ 1000 := by rw [h1.length]; omega
      clear hl
      k_steps
      refine Stop.mk ?_
      rename_i k9 f9 vs9 n9 hf9 hA9 hge9 hlt9 h' F' N' g'
      obtain ⟨LB, hLB⟩ := ledOf hA9
      have hnL : ∀ p ∈ nx, p ∈ LB := by rw [hLB]; intro p hp; simp [hp]
      rw [← hLB] at hA9 hf9 ⊢
      have hvs := hA9.length
      refine comp_indP (fun i ys nx' => AllT nx' ys ((spans (s0 :: sr) ph T k9).take i) ∧ ∀ p ∈ LB, p ∈ nx') ?_ ?_ (Or.inr ⟨_, hf9, rfl, _, rfl⟩) ⟨.nil, fun _ h => h⟩
      · rintro ys nx' ⟨hT3, hG3⟩
        rw [List.size_toArray, hvs, List.take_length] at hT3
        clear F' N'
        k_steps
        exact retS hret (by k_asm) (by k_asm) (fun p hp => .tail _ (hG3 p (hnL p (hG p (List.mem_append.mpr (.inr hp)))))) fun nx'' hs => ⟨k9, _, ys, _, rfl, hs _ (.head _), hT3.mono fun p hp => hs p (.tail _ hp), hge9, hlt9⟩
      · intro i v ys nx' hi' hv hJ hS
        obtain ⟨hT3, hG3⟩ := hJ
        have hv2 : vs9[i]? = some v := by simpa using hv
        obtain ⟨x, v1, v2, n1, t1, t2, rfl, ht, hx1, hd1, hd2⟩ := hA9.get hv2
        obtain ⟨x1, d1, k1, k2, top1, u1, pl1, u2, rfl, hy1, hz1, hc1⟩ := hd1
        obtain ⟨x2, d2, k3, k4, top2, u3, pl2, u4, rfl, hy2, hz2, hc2⟩ := hd2
        refine ⟨x, _, _, _, _, rfl, hG3 _ hx1, rfl, rfl, ?_⟩
        intro I oI C oC D m₂ h tk E' hC hx hx₂ F N o ne
        have hy3 := hG3 _ hy1
        have hz3 := hG3 _ hz1
        have hy4 := hG3 _ hy2
        have hz4 := hG3 _ hz2
        clear F' N'
        k_steps
        rename_i D2 h2 F2 N2 l1
        obtain ⟨l1, l2, l3, l4⟩ := l1
        refine comp_end1 (tl := [_]) (by k_asm) N2 ?_ o (src_mono hS fun p hp => List.mem_append.mpr (.inr hp)) ⟨?_, fun p hp => List.mem_append.mpr (.inr (hG3 p hp))⟩
        · intro q hq p hp
          cases List.mem_singleton.mp hp
          rcases List.mem_cons.mp hq with rfl | hq
          · exact Nat.ne_of_lt l1
          rcases List.mem_cons.mp hq with rfl | hq
          · exact Nat.ne_of_lt l2
          rcases List.mem_cons.mp hq with rfl | hq
          · exact Nat.ne_of_lt l3
          · exact Nat.ne_of_lt (ktn_ltOf l4 q hq)
        · have e1 := dec_tenths hc1
          have e2 := dec_tenths hc2
          rw [← take_snoc ht, ← e1, ← e2]
          exact (hT3.mono fun p hp => List.mem_append.mpr (.inr hp)).snoc (.cons (.head _) .nil)
  · rintro i v ys nx I oI C oC D m₂ h tk E' hi' hv ⟨hA, hG⟩ hS hC hx F N o ne
    have hi2 : i < (s0 :: sr).length := by simpa [hvl] using hi'
    obtain ⟨t, hx2⟩ := hi.get i (s0 :: sr)[i] (by simp [hi2])
    have hv2 : vs[i]? = some v := by simpa using hv
    rw [hx2] at hv2
    cases hv2
    k_steps
    refine comp_end1 (by k_asm) (by k_asm) (by assumption) o (src_mono hS fun p hp => List.mem_append.mpr (.inr hp)) ⟨?_, fun p hp => List.mem_append.mpr (.inr (hG p hp))⟩
    rw [← take_snoc (List.getElem?_eq_getElem hi2)]
    exact (hA.mono fun p hp => List.mem_append.mpr (.inr hp)).snoc (IsDec.mono (by assumption) fun p hp => List.mem_append.mpr (.inl hp))
end
end Mine
end

section
open PySem PySem.W PyProof.Rows PyProof.Rows.LCg
set_option maxRecDepth 100000
set_option maxHeartbeats 1000000
namespace Mine

def DoesQ (w : World) (p : Program) (loose : List Str) (mean : ExcName → Option Value) (mg mb : Str → Option Value) (f : Addr) (k : Nat) (news : Led) (q : Addr) (vs : List Value) (Post : Led → Value → Prop) : Prop :=
  ∀ (dp un : Nat) (gd : Option (List Code)) (cn : Str) (cs : Scope) (a : Addr) (ccd : Value) (cl : List (Str × Addr)) (outer : List Env) (A₀ : Around) (base h₀ : Heap) (L : Addr) (m : Str → Option Value) (s : Shared) (Q E : Value → Shared → Prop),
    Below A₀ base outer h₀ → Fr h₀ L s.heap m → (hd.heap_39 w.params).In h₀ → News h₀ L s.heap news → Top p loose mean mg mb h₀ → cs.kind = .function → dp + k < recursionLimit → un + 8 * k < cLine →
    (∀ (r : Value) (nx : Led) (h' : Heap) (tk' : Nat), Fr h₀ L h' m → News h₀ L h' nx → (∀ p ∈ news, p.1 ≠ q → p ∈ nx) → Post nx r → Q r { s with heap := h', toks := tk' }) →
    wpAny (model PySem.Challenge.rw_og0148_01.prog w) (ktrTop dp un gd cn cs L a ccd cl outer) (call (.ref f) vs) Q E s
theorem doesQ_use {w : World} {p : Program} {loose : List Str} {mean : ExcName → Option Value} {mg mb : Str → Option Value} {f : Addr} {k : Nat} {news : Led} {q : Addr} {vs : List Value} {Post : Led → Value → Prop}
    {dp un : Nat} {gd : Option (List Code)} {cn : Str} {cs : Scope} {a : Addr} {ccd : Value} {cl : List (Str × Addr)} {outer : List Env} {A₀ : Around} {base h₀ : Heap} {L : Addr} {m : Str → Option Value} {s : Shared} {Q E : Value → Shared → Prop}
    (B : Below A₀ base outer h₀) (F : Fr h₀ L s.heap m) (X : (hd.heap_39 w.params).In h₀) (N : News h₀ L s.heap news) (T : Top p loose mean mg mb h₀) (hk : cs.kind = .function)
    (C : DoesQ w p loose mean mg mb f k news q vs Post) (hd : dp + k < recursionLimit) (hu : un + 8 * k < cLine)
    (ret : ∀ (r : Value) (nx : Led) (h' : Heap) (tk' : Nat), Fr h₀ L h' m → News h₀ L h' nx → (∀ p ∈ news, p.1 ≠ q → p ∈ nx) → Post nx r → Q r { s with heap := h', toks := tk' }) :
    wpAny (model PySem.Challenge.rw_og0148_01.prog w) (ktrTop dp un gd cn cs L a ccd cl outer) (call (.ref f) vs) Q E s := C _ _ _ _ _ _ _ _ _ _ _ _ _ _ _ _ _ B F X N T hk hd hu ret

section
variable {prog : Program} {w : World} {A : Around} {E : Value → Shared → Prop} {s : Shared} {h₀ : Heap} {L q : Addr} {m : Str → Option Value}
theorem store_led {led : Led} {items items' : List Value} {n : Nat} {k : Int} {t : Tok} {x : Value} {Q : Unit → Shared → Prop} (F : Fr h₀ L s.heap m) (N : News h₀ L s.heap led) (hm : (q, lstO items n) ∈ led) (h0 : 0 ≤ k) (h1 : k < items.length) (hfit : k < 2 ^ 63) (e : items.set k.toNat x = items')
    (h : ∀ nx h', Fr h₀ L h' m → News h₀ L h' nx → (q, lstO items' n) ∈ nx → (∀ p ∈ led, p.1 ≠ q → p ∈ nx) → Q () { s with heap := h' }) :
    wpAny (model prog w) A (setItem (.ref q) (.int k t) x) Q E s := by
  have z := N _ hm
  have N₂ : News h₀ L s.heap ([] ++ (q, listOf items.toArray n) :: led.filter fun p => p.1 != q) := fun p hp => by
    rcases List.mem_cons.mp hp with rfl | hp
    · exact N _ hm
    · exact N p (List.mem_filter.mp hp).1
  have e2 : items.toArray.setIfInBounds k.toNat x = items'.toArray := by
    subst e
    apply Array.toList_inj.mp
    simp
  have N₃ := ki_turn (its' := items'.toArray) (n' := n) (fun a => a.setIfInBounds k.toNat x) N₂ (fun _ h => nomatch h) (fun p hp => by simpa using (List.mem_filter.mp hp).2) e2 (by subst e; simp)
  exact ki_setAt z.1 h0 hfit (by simp; omega) (h ((q, lstO items' n) :: led.filter fun p => p.1 != q) _ (F.change (Heap.SameBut.update ..) z.2.1 z.2.2) N₃ (.head _) fun p hp hne => .tail _ (List.mem_filter.mpr ⟨hp, by simpa using hne⟩))
end

theorem kept1 {news nx : Led} {e : Addr × Obj} {q : Addr} (hc : e ∈ news) (hne : e.1 ≠ q) (hk : ∀ p ∈ news, p.1 ≠ q → p ∈ nx) : e ∈ nx := hk e hc hne
theorem fmod_in {a b : Int} (h : 0 < b) : 0 ≤ Int.fmod a b ∧ Int.fmod a b < b := ⟨Int.fmod_nonneg_of_pos a h, Int.fmod_lt_of_pos a h⟩
/-- the law's pool at its p-th draw -/
def IsPool (nx : Led) (q c : Addr) (pl : Int) : Prop := ∃ g tg st ts tp n, (q, lstO [.ref c, .int g tg, .int st ts, .int pl tp] n) ∈ nx

section
local macro_rules | `(tactic| k_room) => `(tactic| ktr_room)
local macro_rules | `(tactic| k_mem) => `(tactic| first | exact List.mem_cons_self | (refine List.mem_cons_of_mem _ ?_; k_mem))
local macro_rules | `(tactic| walk_at $s:str) => `(tactic| k_extra $s)
theorem words_C7_1 : True := by
  k_with_none
  (k_with "subscriptTail" => (k_here; (with_reducible show wpAny _ _ (subscriptTail _ _ (Value.ref _) (Value.int _ _)) _ _ _); k_dflt (refine' item_listL ?k1 ?k2 ?k3 ?k4 ?_ ?k5 ?k6; (case k1 => exact News.isList (by k_asm) (by k_mem)); (case k2 => decide); (case k3 => decide); (case k4 => rfl); (case k5 => with_unfolding_all rfl); (case k6 => intro _; with_unfolding_all rfl); k_whole)))
  (k_with "setItem ref int" => (k_here; (with_reducible show wpAny _ _ (setItem (Value.ref _) (Value.int _ _) _) _ _ _); k_dflt (refine' store_led ?k1 ?k2 ?k3 ?k4 ?k5 ?k6 ?k7 ?_; (case k1 => k_asm); (case k2 => k_asm); (case k3 => k_mem); (case k4 => decide); (case k5 => (simp <;> omega)); (case k6 => decide); (case k7 => exact rfl); k_whole; intro _ _ _ _ _ _; (try dsimp only); (try k_fold))))
  (k_with "call builtin:len" => (k_here; (with_reducible show wpAny _ _ (call (Value.builtin "len") [Value.ref _]) _ _ _); k_dflt (refine' len_led ?k1 ?k2 ?k3 ?k4 ?_; (case k1 => k_asm); (case k2 => assumption); (case k3 => assumption); (case k4 => omega); k_whole)))
  (k_with "subscriptTail" => (k_here; (with_reducible show wpAny _ _ (subscriptTail _ _ (Value.ref _) (Value.int _ _)) _ _ _); k_dflt (refine' ksa_sub ?k1 ?k2 ?k3 ?k4 ?k5 ?k6 ?_ ?k7; (case k1 => k_asm); (case k2 => assumption); (case k3 => assumption); (case k4 => omega); (case k5 => omega); (case k6 => omega); (case k7 => with_unfolding_all rfl); k_whole; intro _)))
  (k_with "subscriptTail" => (k_here; (with_reducible show wpAny _ _ (subscriptTail _ _ (Value.ref _) (Value.int _ _)) _ _ _); k_dflt (refine' item_listL ?k1 ?k2 ?k3 ?k4 ?_ ?k5 ?k6; (case k2 => decide); (case k1 => exact News.isList (by k_asm) (by k_mem)); (case k3 => decide); (case k4 => rfl); (case k5 => with_unfolding_all rfl); (case k6 => intro _; with_unfolding_all rfl); k_whole)))
  trivial
variable {w : World} {p : Program} {loose : List Str} {mean : ExcName → Option Value} {mg mb : Str → Option Value}

theorem drawQ {news : Led} {q c : Addr} {pl most : Int} {tm : Tok} {vs : List Value} {nc : Nat} {ns : List Int} (hq : IsPool news q c pl) (hc : (c, lstO vs nc) ∈ news) (hqc : c ≠ q) (hi : IntsAre vs ns) (hlen : ns.length ≤ 100) (h0 : 0 ≤ pl) (h1 : pl ≤ 1000) (hm : 0 < most) (hm2 : most ≤ 100) :
    DoesQ w p loose mean mg mb 211 6 news q [.ref q, .int most tm] (fun nx r => ∃ v t, r = .int v t ∧ 0 ≤ v ∧ v < most ∧ IsPool nx q c (pl + 1)) := by
  have hvl : vs.length = ns.length := hi.length
  obtain ⟨g, tg, st, ts, tp, n, hq⟩ := hq
  unfold DoesQ
  k_fill
  intro dp un gd cn cs a ccd cl outer A₀ base h₀ L m s Q E B F X N TT hk hd hu hret
  refine wpAny_call ?_
  k_dflt ktr_enter
  k_steps
  · exact hret _ _ _ _ (by k_asm) (by k_asm) (fun p hp hne => kept1 (kept1 hp hne (by assumption)) hne (by assumption)) ⟨_, _, rfl, (fmod_in hm).1, (fmod_in hm).2, ⟨_, _, _, _, _, _, by assumption⟩⟩
  · have hc2 := kept1 hc hqc (by assumption)
    have hc3 := kept1 hc2 hqc (by assumption)
    k_steps
    all_goals exact hret _ _ _ _ (by k_asm) (by k_asm) (fun p hp hne => kept1 (kept1 hp hne (by assumption)) hne (by assumption)) ⟨_, _, rfl, (fmod_in hm).1, (fmod_in hm).2, ⟨_, _, _, _, _, _, by assumption⟩⟩
end
end Mine
end

section
open PySem PySem.W PyProof.Rows PyProof.Rows.LCg
set_option maxRecDepth 100000
set_option maxHeartbeats 4000000
namespace Mine
theorem map3 {m : Str → Option Value} {x1 x2 x3 : Str} {v1 v2 v3 : Value} (h1 : m x1 = some v1) (h2 : m x2 = some v2) (h3 : m x3 = some v3) :
    m = fun y => if y = x1 then some v1 else if y = x2 then some v2 else if y = x3 then some v3 else m y := by
  funext y
  by_cases e1 : y = x1
  · subst e1; simp [h1]
  by_cases e2 : y = x2
  · subst e2; simp [e1, h2]
  by_cases e3 : y = x3
  · subst e3; simp [e1, e2, h3]
  simp [e1, e2, e3]
def BInv (nx : Led) (vs' : List Value) (m : Str → Option Value) (nx' : Led) : Prop :=
  (∃ ns', IntsAre vs' ns') ∧ (∃ st t, m (Str.ofString "state") = some (.int st t)) ∧ (∃ g tg, m (Str.ofString "great") = some (.int g tg)) ∧
    (∃ Dc ysx nsx nc, m (Str.ofString "cells") = some (.ref Dc) ∧ (Dc, lstO ysx nc) ∈ nx' ∧ IntsAre ysx nsx ∧ nsx.length ≤ 100) ∧ ∀ p ∈ nx, p ∈ nx'
theorem truthy_led {prog : Program} {w : World} {A : Around} {E : Value → Shared → Prop} {s : Shared} {h₀ : Heap} {L l : Addr} {news : Led} {vs : List Value} {n : Nat} {b : Bool} {Q : Bool → Shared → Prop} (N : News h₀ L s.heap news) (hm : (l, lstO vs n) ∈ news) (hfit : vs.length < 2 ^ 62) (e : (!vs.isEmpty) = b)
    (h : Q b { s with toks := s.toks + 1 + 1 }) : wpAny (model prog w) A (truthy (.ref l)) Q E s := kgr_truthy N hm rfl rfl hfit (by rw [e]; exact h)
section
local macro_rules | `(tactic| k_room) => `(tactic| ktr_room)
local macro_rules | `(tactic| k_mem) => `(tactic| first | exact List.mem_cons_self | (refine List.mem_cons_of_mem _ ?_; k_mem))
local macro_rules | `(tactic| walk_at $s:str) => `(tactic| k_extra $s)
theorem words_C8_1 : True := by
  k_with_none
  (k_with "exec Assign cons ListComp" => (k_here; k_dflt (refine LCg.Assign_ListComp_U (F₀ := by k_asm) (by rfl) (by with_unfolding_all rfl) (by rfl) (by decide) (by rfl) (by decide) (by rfl) (by rfl) (by rfl) ?_)))
  (k_with "CompSrc" => (k_here; k_dflt (refine LCg.CompSrc.ledger (by rfl) (by k_asm) (by k_asm) (by k_mem) ?sz ?_; rotate_left; intro _; refine Stop.out ?_)))
  (k_with "truthy ref" => (k_here; (with_reducible show wpAny _ _ (truthy (Value.ref _)) _ _ _); k_dflt (refine' truthy_led ?k1 ?k2 ?k3 ?k4 ?_; (case k1 => k_asm); (case k2 => k_mem); (case k3 => omega); (case k4 => exact rfl); k_whole)))
  (k_with "subscriptTail" => (k_here; (with_reducible show wpAny _ _ (subscriptTail _ _ (Value.ref _) (Value.int _ _)) _ _ _); k_dflt (refine' item_listL ?k1 ?k2 ?k3 ?k4 ?_ ?k5 ?k6; (case k2 => decide); (case k1 => exact News.isList (by k_asm) (by k_mem)); (case k3 => decide); (case k4 => rfl); (case k5 => with_unfolding_all rfl); (case k6 => intro _; with_unfolding_all rfl); k_whole)))
  (k_with "exec For Name Name cons nil" => (k_here; (with_reducible show wpAny _ _ (exec (Stmt.For _ _ _ _ _) _) _ _ _); refine Stop.out ?_))
  trivial
variable {w : World} {p : Program} {loose : List Str} {mean : ExcName → Option Value} {mg mb : Str → Option Value}

theorem boxB {news : Led} {l : Addr} {vs : List Value} {ns : List Int} (hi : IntsAre vs ns) (hlen : ns.length ≤ 63) (hlay : (PyData.list (ns.map PyData.int)).layable0 = true) :
  ∀ (dp un : Nat) (gd : Option (List Code)) (cn : Str) (cs : Scope) (a : Addr) (ccd : Value) (cl : List (Str × Addr)) (outer : List Env) (A₀ : Around) (base h₀ : Heap) (L : Addr) (m : Str → Option Value) (s : Shared) (Q E : Value → Shared → Prop),
    Below A₀ base outer h₀ → Fr h₀ L s.heap m → (hd.heap_39 w.params).In h₀ → News h₀ L s.heap news → Top p loose mean mg mb h₀ → cs.kind = .function → dp + 4 < recursionLimit → un + 8 * 4 < cLine → base.IsList l vs.toArray →
    Ret h₀ L m news s Q (fun nx r => ∃ q c vs' nc ns', r = .ref q ∧ IsPool nx q c 0 ∧ (c, lstO vs' nc) ∈ nx ∧ c ≠ q ∧ IntsAre vs' ns' ∧ ns'.length ≤ 100) →
    wpAny (model PySem.Challenge.rw_og0148_01.prog w) (ktrTop dp un gd cn cs L a ccd cl outer) (call (.ref 204) [.ref l]) Q E s := by
  k_fill
  intro dp un gd cn cs a ccd cl outer A₀ base h₀ L m s Q E B F X N TT hk hd hu hl hret
  refine wpAny_call ?_
  k_dflt cell_enter
  k_steps
  · refine Stop.mk ?_
    rename_i D ws h1 F1 N1 l1 hI hC hL g1
    obtain ⟨nt, hnt⟩ : ∃ nt, nt = ns.take 40 := ⟨_, rfl⟩
    rw [← hnt] at hI hC hL
    have hntl : nt.length ≤ 40 := by omega
    have hwl := hI.length
    clear hC hL hnt hlay hi
    refine comp_ind (fun i ys nx => IntsAre ys (nt.take i) ∧ ∀ p ∈ (D, listOf ws.toArray 0) :: news, p ∈ nx) ?_ ?_ (Or.inr ⟨_, .head _, rfl, _, rfl⟩) ⟨.nil, fun _ h => h⟩
    · rintro ys nx ⟨hy, hG⟩
      rw [List.size_toArray, hwl, List.take_length] at hy
      have hyl := hy.length
      clear hI
      have hy4 : ∃ nsx, IntsAre ys nsx ∧ nsx.length ≤ 100 := ⟨nt, hy, by omega⟩
      cases hy
      all_goals (
        obtain ⟨nt4, hy2, hy5⟩ := hy4
        k_steps
        all_goals (
          refine Stop.mk ?_
          rename Fr _ _ _ _ => F3
          rename News _ _ _ _ => N3
          with_unfolding_all refine' For_turns F3 ?_
          k_steps
          refine for_list (BInv nx) rfl F3 N3 (.head _) ⟨⟨_, hy2⟩, ⟨_, _, rfl⟩, ⟨_, _, rfl⟩, ⟨_, _, nt4, _, rfl, .head _, hy2, hy5⟩, fun p hp => .tail _ hp⟩ ?_ ?_
          · clear F3 N3
            rintro m₁ nx₁ h₁ tk₁ ⟨-, ⟨st, t1, e1⟩, ⟨g, t2, e2⟩, ⟨Dc, ysx, nsx, nc, e3, i1, i2, i3⟩, i4⟩ F₁ N₁
            rw [map3 e1 e2 e3] at F₁
            dsimp only
            k_steps
            exact retS hret (by k_asm) (by k_asm) (fun p hp => .tail _ (i4 p (hG p (.tail _ hp)))) fun nx' hs => ⟨_, _, _, _, nsx, rfl, ⟨_, _, _, _, _, _, hs _ (.head _)⟩, hs _ (.tail _ i1), Nat.ne_of_lt ((by assumption : ∀ p ∈ nx₁, p.1 < _) _ i1), i2, i3⟩
          · clear F3 N3
            rintro I v vs' m₁ nx₁ h₁ tk₁ o ⟨⟨ns', j1⟩, ⟨st, t1, e1⟩, ⟨g, t2, e2⟩, ⟨Dc, ysx, nsx, nc, e3, i1, i2, i3⟩, i4⟩ hoff hkD F₁ N₁
            rw [map3 e1 e2 e3] at F₁
            cases j1
            k_steps
            exact turn_end (by k_asm) (by k_asm) (.head _) nx₁ (fun p hp => .tail _ hp) hoff hkD ⟨⟨_, by assumption⟩, ⟨_, _, rfl⟩, ⟨_, _, rfl⟩, ⟨_, _, nsx, _, rfl, i1, i2, i3⟩, i4⟩))
    · rintro i v ys nx I oI C oC D m₂ h tk E' hi' hv ⟨hA, hG⟩ hS hC hx F N o ne
      have hi2 : i < nt.length := by simpa [hwl] using hi'
      obtain ⟨t, hx2⟩ := hI.get i nt[i] (by simp [hi2])
      have hv2 : ws[i]? = some v := by simpa using hv
      rw [hx2] at hv2
      cases hv2
      k_steps
      exact comp_end0 (by k_asm) (by k_asm) o hS ⟨by rw [← take_snoc (List.getElem?_eq_getElem hi2)]; exact hA.append (.cons _ _ .nil), hG⟩
  · rename_i ws _ _ _ _ hI _ _
    have := hI.length
    rw [List.size_toArray, sizeLine_eq]
    simp only [List.length_take] at this
    omega
end
end Mine
end

section
open PySem PySem.W PyProof.Rows PyProof.Rows.LCg
set_option maxRecDepth 100000
set_option maxHeartbeats 4000000
namespace Mine
/-- the pool, its cells and the name's own cell stand -/
def PoolInv (nx : Led) (cell : Addr) (oc : Obj) (q c : Addr) (vs : List Value) (nc : Nat) (ns : List Int) (pl : Int) : Prop :=
  IsPool nx q c pl ∧ (c, lstO vs nc) ∈ nx ∧ (cell, oc) ∈ nx ∧ oc.data = .cell (some (.ref q)) ∧ c ≠ q ∧ cell ≠ q ∧ IntsAre vs ns ∧ ns.length ≤ 100 ∧ 0 ≤ pl
theorem PoolInv.kept {nx nx' : Led} {cell q c : Addr} {oc : Obj} {vs : List Value} {nc : Nat} {ns : List Int} {pl pl' : Int} (h : PoolInv nx cell oc q c vs nc ns pl) (hk : ∀ p ∈ nx, p.1 ≠ q → p ∈ nx') (hq : IsPool nx' q c pl') (hp : 0 ≤ pl') : PoolInv nx' cell oc q c vs nc ns pl' := by
  obtain ⟨_, h2, h3, h4, h5, h6, h7, h8, _⟩ := h
  exact ⟨hq, hk _ h2 h5, hk _ h3 h6, h4, h5, h6, h7, h8, hp⟩
theorem PoolInv.mono {nx nx' : Led} {cell q c : Addr} {oc : Obj} {vs : List Value} {nc : Nat} {ns : List Int} {pl : Int} (h : PoolInv nx cell oc q c vs nc ns pl) (hk : ∀ p ∈ nx, p ∈ nx') : PoolInv nx' cell oc q c vs nc ns pl := by
  obtain ⟨⟨g, tg, st, ts, tp, n, h1⟩, h2, h3, h4, h5, h6, h7, h8, h9⟩ := h
  exact ⟨⟨g, tg, st, ts, tp, n, hk _ h1⟩, hk _ h2, hk _ h3, h4, h5, h6, h7, h8, h9⟩
/-- the three entries alone -/
theorem PoolInv.three {nx : Led} {cell q c : Addr} {oc : Obj} {vs : List Value} {nc : Nat} {ns : List Int} {pl : Int} (h : PoolInv nx cell oc q c vs nc ns pl) : ∃ o, PoolInv [(q, o), (c, lstO vs nc), (cell, oc)] cell oc q c vs nc ns pl ∧ ∀ p ∈ [(q, o), (c, lstO vs nc), (cell, oc)], p ∈ nx := by
  obtain ⟨⟨g, tg, st, ts, tp, n, h1⟩, h2, h3, h4, h5, h6, h7, h8, h9⟩ := h
  refine ⟨_, ⟨⟨g, tg, st, ts, tp, n, .head _⟩, .tail _ (.head _), .tail _ (.tail _ (.head _)), h4, h5, h6, h7, h8, h9⟩, fun p hp => ?_⟩
  rcases List.mem_cons.mp hp with rfl | hp
  · exact h1
  rcases List.mem_cons.mp hp with rfl | hp
  · exact h2
  · rw [List.mem_singleton.mp hp]; exact h3

section
variable {w : World} {p : Program} {loose : List Str} {mean : ExcName → Option Value} {mg mb : Str → Option Value}
theorem drawP {news : Led} {cell q c : Addr} {oc : Obj} {vs : List Value} {nc : Nat} {ns : List Int} {pl most : Int} {tm : Tok} (hP : PoolInv news cell oc q c vs nc ns pl) (h1 : pl ≤ 1000) (hm : 0 < most) (hm2 : most ≤ 100) :
    DoesQ w p loose mean mg mb 211 6 news q [.ref q, .int most tm] (fun nx r => ∃ v t, r = .int v t ∧ 0 ≤ v ∧ v < most ∧ PoolInv nx cell oc q c vs nc ns (pl + 1)) := by
  intro dp un gd cn cs a ccd cl outer A₀ base h₀ L m s Q E B F X N T hk hd hu hret
  obtain ⟨g1, g2, g3, g4, g5, g6, g7, g8, g9⟩ := id hP
  refine drawQ g1 g2 g5 g7 g8 g9 h1 hm hm2 dp un gd cn cs a ccd cl outer A₀ base h₀ L m s Q E B F X N T hk hd hu fun r nx h' tk' F' N' k' P' => hret r nx h' tk' F' N' k' ?_
  obtain ⟨v, t, e, lo, hi, hp⟩ := P'
  exact ⟨v, t, e, lo, hi, hP.kept k' hp (by omega)⟩
end

section
variable {M : Model} {A : Around} {E : Value → Shared → Prop} {s : Shared} {h₀ : Heap} {L a c : Addr} {m : Str → Option Value} {cn : Str} {cs : Scope} {ccd : Value} {cl : List (Str × Addr)} {x : Str} {v : Value} {led : Led} {o : Obj} {v₀ : Option Value}
theorem storeC_led {Q : Unit → Shared → Prop} (F : Fr h₀ L s.heap m) (N : News h₀ L s.heap led) (hc : cl.lookup x = some c) (hm : (c, o) ∈ led) (hd : o.data = .cell v₀)
    (h : ∀ nx h' o', Fr h₀ L h' m → News h₀ L h' nx → (c, o') ∈ nx → o'.data = .cell (some v) → (∀ p ∈ led, p.1 ≠ c → p ∈ nx) → Q () { s with heap := h' })
    (hk : cs.kind = .function := by rfl) (hx : (envX cn cs L a ccd cl).kindOf x = some .cell := by rfl) : wpAny M A (storeName (envX cn cs L a ccd cl) x v) Q E s := by
  have N₂ : News h₀ L s.heap ((c, o) :: led.filter fun p => p.1 != c) := fun p hp => by
    rcases List.mem_cons.mp hp with rfl | hp
    · exact N _ hm
    · exact N p (List.mem_filter.mp hp).1
  exact storeX_C F N₂ hc (UpdF.head fun p hp => by simpa using (List.mem_filter.mp hp).2) hd (fun h' o' F' N' d' => h _ h' o' F' N' (.head _) d' fun p hp hne => .tail _ (List.mem_filter.mpr ⟨hp, by simpa using hne⟩)) hk hx
theorem ldC_cell {scope : Scope} {C : Addr} {env : Env} {pos : Pos} {Q : Value → Shared → Prop} (N : News h₀ L s.heap led) (hc : cl.lookup x = some c) (hm : (c, o) ∈ led) (hd : o.data = .cell (some v)) (h : Q v s)
    (hk : (compEnvC scope cl C env).scope.kind = .function := by rfl) (hx : (compEnvC scope cl C env).kindOf x = some .cell := by rfl) (hb : (x == ("__debug__" : Str)) = false := by decide) :
    wpAny M A (eval (.Name x pos) (compEnvC scope cl C env)) Q E s := wpAny_Name (wpAny_loadName_cell hk hx hc ⟨o, N.get hm, hd⟩ h) hb
end

theorem ne_cell {h₀ h : Heap} {L q c : Addr} {led : Led} {items : List Value} {n : Nat} {o : Obj} {v : Option Value} (N : News h₀ L h led) (hq : (q, lstO items n) ∈ led) (hc : (c, o) ∈ led) (hd : o.data = .cell v) : q ≠ c := fun e => by
  have := News.same N hq hc e
  have h2 : lstO items n = o := congrArg Prod.snd this
  rw [← h2] at hd
  cases hd
theorem PoolInv.make {h₀ h : Heap} {L q c cell : Addr} {led nx : Led} {vs : List Value} {nc : Nat} {ns : List Int} {o oc : Obj} {v : Option Value} (N : News h₀ L h led) (hm : (cell, o) ∈ led) (hd : o.data = .cell v) (hq : IsPool led q c 0) (hc : (c, lstO vs nc) ∈ led) (hqc : c ≠ q) (hi : IntsAre vs ns) (hl : ns.length ≤ 100)
    (hm' : (cell, oc) ∈ nx) (hd' : oc.data = .cell (some (.ref q))) (hk : ∀ p ∈ led, p.1 ≠ cell → p ∈ nx) : PoolInv nx cell oc q c vs nc ns 0 := by
  obtain ⟨g, tg, st, ts, tp, n, h1⟩ := hq
  have e1 := ne_cell N h1 hm hd
  exact ⟨⟨g, tg, st, ts, tp, n, hk _ h1 e1⟩, hk _ hc (ne_cell N hc hm hd), hm', hd', hqc, e1.symm, hi, hl, Int.le_refl 0⟩

theorem comp_endP {h₀ : Heap} {L : Addr} {m : Str → Option Value} {s₁ : Shared} {I C D cell q c : Addr} {oI oC oD oc : Obj} {nx nx9 : Led} {vs : List Value} {nc : Nat} {ns : List Int} {pl pl' : Int} {r : Value → Led → Prop} {y : Value} {h' : Heap} {tk : Nat}
    (F : Fr h₀ L h' m) (N : News h₀ L h' nx9) (o : Off3 I C D nx) (hP : PoolInv nx cell oc q c vs nc ns pl) (hP9 : PoolInv nx9 cell oc q c vs nc ns pl') (hk : ∀ p ∈ (I, oI) :: (C, oC) :: (D, oD) :: nx, p.1 ≠ q → p ∈ nx9) (hr : ∀ nx', PoolInv nx' cell oc q c vs nc ns pl' → r y nx') :
    CompEnd h₀ L m s₁ I oI C oC D oD (fun _ => True) r y { s₁ with heap := h', toks := tk } := by
  obtain ⟨o3, h3, hs3⟩ := hP9.three
  obtain ⟨⟨g, tg, st, ts, tp, n, g1⟩, g2, g3, _⟩ := hP
  have a1 := o.mem _ g1
  have a2 := o.mem _ g2
  have a3 := o.mem _ g3
  refine ⟨h', tk, [(q, o3), (c, lstO vs nc), (cell, oc)], rfl, F, fun p hp => N p ?_, ⟨⟨a1.1, a1.2.1, a1.2.2⟩, ⟨a2.1, a2.2.1, a2.2.2⟩, ⟨a3.1, a3.2.1, a3.2.2⟩, trivial⟩, trivial, hr _ h3⟩
  rcases List.mem_cons.mp hp with rfl | hp
  · exact hk _ (.head _) (Ne.symm a1.1)
  rcases List.mem_cons.mp hp with rfl | hp
  · exact hk _ (.tail _ (.head _)) (Ne.symm a1.2.1)
  rcases List.mem_cons.mp hp with rfl | hp
  · exact hk _ (.tail _ (.tail _ (.head _))) (Ne.symm a1.2.2)
  · exact hs3 p hp
end Mine
end

section
open PySem PySem.W PyProof.Rows
namespace Mine
theorem getD_nn {ts : List Int} (h0 : ∀ x ∈ ts, 0 ≤ x) (i : Nat) : 0 ≤ ts.getD i 0 := by
  rw [List.getD_eq_getElem?_getD]
  cases h : ts[i]? with
  | none => simp
  | some x => exact h0 x (List.mem_of_getElem? h)
theorem pos_step {ts : List Int} (h0 : ∀ x ∈ ts, 0 ≤ x) (ph : Int) (k : Nat) : pos ts ph k ≤ pos ts ph (k + 1) := by
  have := getD_nn h0 (k % ts.length)
  show _ ≤ _ + _
  omega
theorem pos_mono {ts : List Int} (h0 : ∀ x ∈ ts, 0 ≤ x) (ph : Int) {j k : Nat} (h : j ≤ k) : pos ts ph j ≤ pos ts ph k := by
  induction h with
  | refl => exact Int.le_refl _
  | step _ ih => exact Int.le_trans ih (pos_step h0 ph _)
theorem pos_within (ts : List Int) (ph : Int) (a : Nat) : ∀ j, j ≤ ts.length → pos ts ph (a * ts.length + j) = pos ts ph (a * ts.length) + (ts.take j).sum := by
  intro j
  induction j with
  | zero => intro _; simp
  | succ j ih =>
    intro hj
    have hj' : j < ts.length := by omega
    have e1 : ts.getD ((a * ts.length + j) % ts.length) 0 = ts[j] := by
      rw [Nat.mul_comm, Nat.mul_add_mod, Nat.mod_eq_of_lt hj', List.getD_eq_getElem?_getD, List.getElem?_eq_getElem hj']; rfl
    have e2 : (ts.take (j + 1)).sum = (ts.take j).sum + ts[j] := by
      rw [List.take_add_one, List.getElem?_eq_getElem hj', List.sum_append]; simp
    have e3 := ih (by omega)
    show pos ts ph (a * ts.length + j) + ts.getD ((a * ts.length + j) % ts.length) 0 = _
    rw [e1, e2, e3]; omega
theorem pos_period (ts : List Int) (ph : Int) : ∀ a, pos ts ph (a * ts.length) = - ph + a * ts.sum := by
  intro a
  induction a with
  | zero => simp [pos]
  | succ a ih =>
    have := pos_within ts ph a ts.length (Nat.le_refl _)
    rw [List.take_length] at this
    rw [Nat.succ_mul, this, ih]
    push_cast
    rw [Int.add_mul]
    omega
theorem bound_ok {ts : List Int} {ph T : Int} (hn : 0 < ts.length) (hn8 : ts.length ≤ 8) (h0 : ∀ x ∈ ts, 0 ≤ x) (hs : 3 ≤ ts.sum) (hT : T + ph ≤ 120) : ∀ k, pos ts ph k < T → k < 400 := by
  intro k hk
  have h1 : k / ts.length * ts.length ≤ k := Nat.div_mul_le_self _ _
  have h2 := pos_mono h0 ph h1
  rw [pos_period] at h2
  have h4 : k / ts.length < 40 := by
    generalize k / ts.length = q at h2
    have h3 : (q : Int) * 3 ≤ (q : Int) * ts.sum := Int.mul_le_mul_of_nonneg_left hs (by omega)
    generalize (q : Int) * ts.sum = z at h2 h3
    omega
  have h5 : k < 40 * ts.length := by
    have := Nat.lt_of_div_lt_div (a := k) (b := 40 * ts.length) (c := ts.length) (by rw [Nat.mul_div_cancel _ hn]; exact h4)
    exact this
  have : 40 * ts.length ≤ 40 * 8 := Nat.mul_le_mul_left _ hn8
  omega
theorem foldl_min_nn {ts : List Int} : ∀ {a : Int}, 0 ≤ a → (∀ x ∈ ts, 0 ≤ x) → 0 ≤ ts.foldl min a := by
  induction ts with
  | nil => intro a h _; exact h
  | cons x r ih => intro a h h0; exact ih (by have := h0 x (.head _); omega) fun y hy => h0 y (.tail _ hy)
theorem foldl_max_ge {ts : List Int} : ∀ {a : Int}, a ≤ ts.foldl max a ∧ ∀ x ∈ ts, x ≤ ts.foldl max a := by
  induction ts with
  | nil => intro a; exact ⟨Int.le_refl _, fun _ h => nomatch h⟩
  | cons x r ih =>
    intro a
    have h := ih (a := max a x)
    refine ⟨by have := h.1; show a ≤ r.foldl max (max a x); omega, fun y hy => ?_⟩
    rcases List.mem_cons.mp hy with rfl | hy
    · have := h.1; show y ≤ r.foldl max (max a y); omega
    · exact h.2 y hy
theorem sum_le_zero {ts : List Int} (h : ∀ x ∈ ts, x ≤ 0) : ts.sum ≤ 0 := by
  induction ts with
  | nil => simp
  | cons x r ih =>
    have h1 := h x (.head _)
    have h2 := ih fun y hy => h y (.tail _ hy)
    rw [List.sum_cons]; omega
theorem foldl_max_pos {a : Int} {ts : List Int} (hs : 3 ≤ (a :: ts).sum) : 0 < ts.foldl max a := by
  by_cases h : 0 < ts.foldl max a
  · exact h
  · have h1 := foldl_max_ge (ts := ts) (a := a)
    have := sum_le_zero (ts := a :: ts) fun x hx => by
      rcases List.mem_cons.mp hx with rfl | hx
      · have := h1.1; omega
      · have := h1.2 x hx; omega
    omega

/-- all that is drawn -/
def spansUpTo (ts : List Int) (ph T : Int) : Nat → List (Int × Int)
  | 0 => []
  | k + 1 => spansUpTo ts ph T k ++ if pos ts ph k < T then drawn ts ph T k else []
def S (ts : List Int) (ph T : Int) : List (Int × Int) := spansUpTo ts ph T 400
theorem upTo_spans {ts : List Int} {ph T : Int} : ∀ {k : Nat}, (∀ j < k, pos ts ph j < T) → spansUpTo ts ph T k = spans ts ph T k := by
  intro k
  induction k with
  | zero => intro _; rfl
  | succ k ih =>
    intro h
    show _ ++ _ = _ ++ _
    rw [ih fun j hj => h j (by omega), if_pos (h k (by omega))]
theorem upTo_more {ts : List Int} {ph T : Int} (h0 : ∀ x ∈ ts, 0 ≤ x) {k : Nat} (hk : T ≤ pos ts ph k) : ∀ d, spansUpTo ts ph T (k + d) = spansUpTo ts ph T k := by
  intro d
  induction d with
  | zero => rfl
  | succ d ih =>
    show spansUpTo ts ph T (k + d) ++ (if pos ts ph (k + d) < T then drawn ts ph T (k + d) else []) = _
    rw [ih, if_neg, List.append_nil]
    have := pos_mono h0 ph (Nat.le_add_right k d)
    omega
theorem S_eq {ts : List Int} {ph T : Int} (h0 : ∀ x ∈ ts, 0 ≤ x) {k : Nat} (hk : T ≤ pos ts ph k) (hlt : ∀ j < k, pos ts ph j < T) (hb : ∀ k, pos ts ph k < T → k < 400) : spans ts ph T k = S ts ph T := by
  have hk4 : k ≤ 400 := by
    rcases Nat.eq_zero_or_pos k with h | h
    · omega
    · have := hb (k - 1) (hlt (k - 1) (by omega)); omega
  obtain ⟨d, hd⟩ := Nat.exists_eq_add_of_le hk4
  show _ = spansUpTo ts ph T 400
  rw [hd, upTo_more h0 hk, upTo_spans hlt]
end Mine
end

section
open PySem PySem.W PyProof.Rows PyProof.Rows.LCg
set_option maxRecDepth 100000
set_option maxHeartbeats 1000000
namespace Mine
structure IsS (l : List (Int × Int)) (ts : List Int) (ph T : Int) : Prop where
  eq : l = S ts ph T
theorem upTo_len (ts : List Int) (ph T : Int) (k : Nat) : (spansUpTo ts ph T k).length ≤ k := by
  induction k with
  | zero => simp [spansUpTo]
  | succ k ih =>
    simp only [spansUpTo, List.length_append]
    have h1 : (drawn ts ph T k).length ≤ 1 := by unfold drawn; split <;> simp
    have h2 : (if pos ts ph k < T then drawn ts ph T k else []).length ≤ 1 := by split <;> simp [h1]
    omega
theorem S_len (ts : List Int) (ph T : Int) : (S ts ph T).length ≤ 400 := upTo_len ts ph T 400
theorem IsS.len {l : List (Int × Int)} {ts : List Int} {ph T : Int} (h : IsS l ts ph T) : l.length ≤ 400 := by rw [h.eq]; exact S_len ts ph T
section
variable {w : World} {p : Program} {loose : List Str} {mean : ExcName → Option Value} {mg mb : Str → Option Value}
theorem lawS {news : Led} {l : Addr} {n : Nat} {T ph : Int} {tT tP : Tok} {vs : List Value} {ns : List Int} (hl : (l, lstO vs n) ∈ news) (hi : IntsAre vs ns) (hn : 0 < ns.length) (hn8 : ns.length ≤ 8) (h0 : ∀ x ∈ ns, 0 ≤ x) (hs : 3 ≤ ns.sum) (hph : 0 ≤ ph) (hTp : 0 < T) (hTph : T + ph ≤ 120) :
    Does w p loose mean mg mb 216 26 news [.int T tT, .ref l, .int ph tP] (fun nx r => ∃ f vs' n' l, r = .ref f ∧ (f, lstO vs' n') ∈ nx ∧ AllT nx vs' l ∧ IsS l ns ph T) := by
  cases ns with
  | nil => simp at hn
  | cons s0 sr =>
    have hb := bound_ok hn hn8 h0 hs hTph
    have hl8 : sr.length ≤ 100 := by simp at hn8; omega
    intro dp un gd cn cs a ccd cl outer A₀ base h₀ L m s Q E B F X N TT hk hd hu hret
    refine lawSpans hl hi hl8 (foldl_min_nn (h0 _ (.head _)) fun x hx => h0 x (.tail _ hx)) (foldl_max_pos hs) hph hTp hb dp un gd cn cs a ccd cl outer A₀ base h₀ L m s Q E B F X N TT hk hd hu fun r tl h' tk' F' N' l' P' => hret r tl h' tk' F' N' l' ?_
    obtain ⟨k, f, vs', n', e, hf, hA, hge, hlt⟩ := P'
    rw [S_eq h0 hge hlt hb] at hA
    exact ⟨f, vs', n', _, e, hf, hA, ⟨rfl⟩⟩
end

theorem sum_nn {ts : List Int} (h : ∀ x ∈ ts, 0 ≤ x) : 0 ≤ ts.sum := by
  induction ts with
  | nil => simp
  | cons x r ih =>
    have h1 := h x (.head _)
    have h2 := ih fun y hy => h y (.tail _ hy)
    rw [List.sum_cons]; omega
theorem sum_le {ts : List Int} (h : ∀ x ∈ ts, x < 12) : ts.sum ≤ 11 * ts.length := by
  induction ts with
  | nil => simp
  | cons x r ih =>
    have h1 := h x (.head _)
    have h2 := ih fun y hy => h y (.tail _ hy)
    rw [List.sum_cons, List.length_cons]; push_cast; omega
theorem set3 {ns : List Int} (hn : 0 < ns.length) (h : ∀ x ∈ ns, 0 ≤ x ∧ x < 12) : (∀ x ∈ ns.set 0 3, 0 ≤ x ∧ x < 12) ∧ 3 ≤ (ns.set 0 3).sum := by
  cases ns with
  | nil => simp at hn
  | cons a r =>
    refine ⟨fun x hx => ?_, ?_⟩
    · rcases List.mem_cons.mp hx with rfl | hx
      · omega
      · exact h x (.tail _ hx)
    · show 3 ≤ (3 :: r).sum
      have := sum_nn fun x hx => (h x (.tail _ hx)).1
      rw [List.sum_cons]; omega

def MidS (h₀ : Heap) (L : Addr) (mb : Str → Option Value) (s₀ : Shared) (cell : Addr) (oc : Obj) (q c : Addr) (vsc : List Value) (nc : Nat) (nsc : List Int) (pl : Int) (k : Nat) (f : Flow) (s' : Shared) : Prop :=
  f = .next ∧ ∃ h' tk' nx D ys n ns, s' = { s₀ with heap := h', toks := tk' } ∧ Fr h₀ L h' (fun z => if z = Str.ofString "steps" then some (.ref D) else mb z) ∧ News h₀ L h' nx ∧ (D, lstO ys n) ∈ nx ∧ IntsAre ys ns ∧ ns.length = k ∧ (∀ x ∈ ns, 0 ≤ x ∧ x < 12) ∧ 3 ≤ ns.sum ∧ PoolInv nx cell oc q c vsc nc nsc pl ∧ D ≠ q
theorem MidS.mk {h₀ : Heap} {L : Addr} {mb : Str → Option Value} {s₀ : Shared} {cell : Addr} {oc : Obj} {q c : Addr} {vsc : List Value} {nc : Nat} {nsc : List Int} {pl : Int} {k : Nat} {h' : Heap} {tk' : Nat} {nx : Led} {D : Addr} {ys : List Value} {n : Nat} {ns : List Int}
    (F : Fr h₀ L h' (fun z => if z = Str.ofString "steps" then some (.ref D) else mb z)) (N : News h₀ L h' nx) (h1 : (D, lstO ys n) ∈ nx) (h2 : IntsAre ys ns) (h3 : ns.length = k) (h4 : ∀ x ∈ ns, 0 ≤ x ∧ x < 12) (h5 : 3 ≤ ns.sum) (h6 : PoolInv nx cell oc q c vsc nc nsc pl) (h7 : D ≠ q) :
    MidS h₀ L mb s₀ cell oc q c vsc nc nsc pl k .next { s₀ with heap := h', toks := tk' } := ⟨rfl, h', tk', nx, D, ys, n, ns, rfl, F, N, h1, h2, h3, h4, h5, h6, h7⟩
theorem cutS {M : Model} {A : Around} {E : Value → Shared → Prop} {t : Sem Flow} {s : Shared} {h₀ : Heap} {L : Addr} {mb : Str → Option Value} {D : Addr} {Qc : Flow → Shared → Prop} {cell : Addr} {oc : Obj} {q c : Addr} {vsc : List Value} {nc : Nat} {nsc : List Int} {pl : Int} {k : Nat}
    {nx0 : Led} {ns0 : List Int} (_F : Fr h₀ L s.heap (fun z => if z = Str.ofString "steps" then some (.ref D) else mb z)) (_P : PoolInv nx0 cell oc q c vsc nc nsc pl) (_k : ns0.length = k) (h1 : wpAny M A t (MidS h₀ L mb s cell oc q c vsc nc nsc pl k) E s)
    (h2 : ∀ h' tk' nx D ys n ns, Fr h₀ L h' (fun z => if z = Str.ofString "steps" then some (.ref D) else mb z) → News h₀ L h' nx → (D, lstO ys n) ∈ nx → IntsAre ys ns → ns.length = k → (∀ x ∈ ns, 0 ≤ x ∧ x < 12) → 3 ≤ ns.sum → PoolInv nx cell oc q c vsc nc nsc pl → D ≠ q → Qc .next { s with heap := h', toks := tk' }) : wpAny M A t Qc E s := by
  refine wpAny_mono h1 (fun f s' hm => ?_) fun _ _ e => e
  obtain ⟨rfl, h', tk', nx, D, ys, n, ns, rfl, F, N, a1, a2, a3, a4, a5, a6, a7⟩ := hm
  exact h2 h' tk' nx D ys n ns F N a1 a2 a3 a4 a5 a6 a7
theorem pool_ne {nx : Led} {cell q c D : Addr} {oc : Obj} {vs : List Value} {nc : Nat} {ns : List Int} {pl : Int} (h : PoolInv nx cell oc q c vs nc ns pl) (o : Off1 D nx) : D ≠ q := by
  obtain ⟨⟨g, tg, st, ts, tp, n, h1⟩, _⟩ := h
  have all : ∀ {l : Led}, Off1 D l → ∀ p ∈ l, p.1 ≠ D := by
    intro l
    induction l with
    | nil => intro _ p hp; cases hp
    | cons a r ih =>
      intro o p hp
      rcases List.mem_cons.mp hp with rfl | hp
      · exact o.1
      · exact ih o.2 p hp
  exact Ne.symm (all o _ h1)
end Mine
namespace Mine
theorem off1_all {D : Addr} : ∀ {l : Led}, Off1 D l → ∀ p ∈ l, p.1 ≠ D := by
  intro l
  induction l with
  | nil => intro _ p hp; cases hp
  | cons a r ih =>
    intro o p hp
    rcases List.mem_cons.mp hp with rfl | hp
    · exact o.1
    · exact ih o.2 p hp
theorem PoolInv.set {nx nx9 : Led} {cell q c D : Addr} {oD oc : Obj} {vs : List Value} {nc : Nat} {ns : List Int} {pl : Int} (h : PoolInv nx cell oc q c vs nc ns pl) (o : Off1 D nx) (hk : ∀ p ∈ (D, oD) :: nx, p.1 ≠ D → p ∈ nx9) : PoolInv nx9 cell oc q c vs nc ns pl :=
  h.mono fun p hp => hk p (.tail _ hp) (off1_all o p hp)
end Mine
end

section
open PySem PySem.W PyProof.Rows PyProof.Rows.LCg
set_option maxRecDepth 100000
set_option maxHeartbeats 1000000
namespace Mine
def dueOne (ph : Int) (p : Int × Int) : List (Int × Int) := if ph < p.2 ∨ ph ≤ p.1 then [(max p.1 ph - ph, p.2 - ph)] else []
def dueL (ph : Int) : List (Int × Int) → List (Int × Int)
  | [] => []
  | p :: r => dueOne ph p ++ dueL ph r
theorem dueOne_len {ph : Int} {p : Int × Int} : (dueOne ph p).length ≤ 1 := by unfold dueOne; split <;> simp
theorem AllT.kept {led nx : Led} {f : Addr} (hk : ∀ p ∈ led, p.1 ≠ f ∨ p.2.cls ≠ .type "list" → p ∈ nx) {vs : List Value} {ts : List (Int × Int)} (h : AllT led vs ts) : AllT nx vs ts := by
  induction h with
  | nil => exact .nil
  | cons h1 _ ih => exact .cons (keep_ne hk h1 (by simp)) ih
/-- the law's names during the loop that makes due -/
def LInv (g du f D : Addr) (ph ln : Int) (tp tl : Tok) (all : List (Int × Int)) (Lb : Led) (vs' : List Value) (m : Str → Option Value) (nx : Led) : Prop :=
  (g = du → vs' = []) ∧ ∃ rest acc items n, AllT nx vs' rest ∧ m (Str.ofString "due") = some (.ref du) ∧ m (Str.ofString "found") = some (.ref f) ∧ m (Str.ofString "phase") = some (.int ph tp) ∧ m (Str.ofString "length") = some (.int ln tl) ∧ m (Str.ofString "steps") = some (.ref D) ∧
    (du, lstO items n) ∈ nx ∧ AllT nx items acc ∧ acc ++ dueL ph rest = dueL ph all ∧ acc.length + rest.length ≤ 400 ∧ (∀ p ∈ Lb, p.1 ≠ du) ∧ ∀ p ∈ Lb, p ∈ nx
theorem empty_same {h₀ h : Heap} {L g du : Addr} {nx : Led} {vs : List Value} {n n' : Nat} (N : News h₀ L h nx) (h1 : (g, lstO vs n') ∈ nx) (h2 : (du, lstO [] n) ∈ nx) (e : g = du) : vs = [] := by
  have h3 : lstO vs n' = lstO [] n := congrArg Prod.snd (News.same N h1 h2 e)
  unfold lstO at h3
  have h5 := congrArg Obj.data h3
  dsimp only at h5
  injection h5 with h6 h7
  simpa using h6
def offI (I : Addr) (nx : Led) : Led := nx.filter fun p => p.1 != I
theorem mem_offI {I : Addr} {nx : Led} {p : Addr × Obj} (h : p ∈ nx) (hne : p.1 ≠ I) : p ∈ offI I nx := List.mem_filter.mpr ⟨h, by simpa using hne⟩
theorem turn_endF {h₀ : Heap} {ax I : Addr} {vs : List Value} {n : Nat} {o : Obj} {L : Addr} {J : (Str → Option Value) → Led → Prop} {m' : Str → Option Value} {nx9 : Led} {s₁ : Shared} {h' : Heap} {tk : Nat}
    (F : Fr h₀ L h' m') (N : News h₀ L h' nx9) (hI : (I, o) ∈ nx9) (hk : (ax, lstO vs n) ∈ nx9) (ha : ax ≠ I) (hJ : J m' (offI I nx9)) :
    UnrEndW h₀ L s₁ [(I, o)] (fun m' n' => SubL [(ax, lstO vs n)] n' ∧ J m' n') { s₁ with heap := h', toks := tk } :=
  turn_end F N hI (offI I nx9) (fun _ hp => (List.mem_filter.mp hp).1) (fun p hp => by simpa using (List.mem_filter.mp hp).2) (mem_offI hk ha) hJ
theorem LInv.push {g du f D I D2 : Addr} {ph ln : Int} {tp tl t1 t2 : Tok} {all acc rest : List (Int × Int)} {Lb nx nx9 : Led} {vs' items : List Value} {m' : Str → Option Value} {b e : Int} {n' n2 : Nat} {o : Obj}
    (hg : g ≠ du) (m1 : m' (Str.ofString "due") = some (.ref du)) (m2 : m' (Str.ofString "found") = some (.ref f)) (m3 : m' (Str.ofString "phase") = some (.int ph tp)) (m4 : m' (Str.ofString "length") = some (.int ln tl)) (m5 : m' (Str.ofString "steps") = some (.ref D))
    (hk9 : ∀ p ∈ (D2, ({ cls := .type "tuple", data := .seq [Value.int ((if ph > b then ph else b) - ph) t1, Value.int (e - ph) t2].toArray n2 } : Obj)) :: (I, o) :: nx, p.1 ≠ du ∨ p.2.cls ≠ .type "list" → p ∈ nx9)
    (hD2 : D2 ≠ I) (hoff : ∀ p ∈ nx, p.1 ≠ I) (hd : du ≠ I) (hf9 : (du, lstO (items ++ [Value.ref D2]) n') ∈ nx9) (hT : AllT nx vs' rest) (hA : AllT nx items acc) (he : acc ++ dueL ph ((b, e) :: rest) = dueL ph all) (hl : acc.length + (rest.length + 1) ≤ 400) (hL : ∀ p ∈ Lb, p.1 ≠ du) (hs : ∀ p ∈ Lb, p ∈ nx)
    (hc : ph < e ∨ ph ≤ b) : LInv g du f D ph ln tp tl all Lb vs' m' (offI I nx9) := by
  have em : (if ph > b then ph else b) = max b ph := by rw [Int.max_def]; split <;> split <;> omega
  rw [em] at hk9
  have hk : ∀ p ∈ nx, p.1 ≠ du ∨ p.2.cls ≠ .type "list" → p ∈ offI I nx9 := fun p hp ho => mem_offI (hk9 p (.tail _ (.tail _ hp)) ho) (hoff p hp)
  refine ⟨fun e => absurd e hg, rest, acc ++ [(max b ph - ph, e - ph)], items ++ [.ref D2], n', hT.kept hk, m1, m2, m3, m4, m5, mem_offI hf9 hd, (hA.kept hk).snoc (.cons (mem_offI (hk9 _ (.head _) (.inr (by simp))) hD2) .nil), ?_, by simp; omega, hL, fun p hp => hk p (hs p hp) (.inl (hL p hp))⟩
  rw [← he, List.append_assoc]
  show _ = acc ++ (dueOne ph (b, e) ++ dueL ph rest)
  unfold dueOne; rw [if_pos hc]
theorem LInv.pass {g du f D : Addr} {ph ln : Int} {tp tl : Tok} {all acc rest : List (Int × Int)} {Lb nx : Led} {vs' items : List Value} {m' : Str → Option Value} {b e : Int} {n : Nat}
    (hg : g ≠ du) (m1 : m' (Str.ofString "due") = some (.ref du)) (m2 : m' (Str.ofString "found") = some (.ref f)) (m3 : m' (Str.ofString "phase") = some (.int ph tp)) (m4 : m' (Str.ofString "length") = some (.int ln tl)) (m5 : m' (Str.ofString "steps") = some (.ref D))
    (hf9 : (du, lstO items n) ∈ nx) (hT : AllT nx vs' rest) (hA : AllT nx items acc) (he : acc ++ dueL ph ((b, e) :: rest) = dueL ph all) (hl : acc.length + (rest.length + 1) ≤ 400) (hL : ∀ p ∈ Lb, p.1 ≠ du) (hs : ∀ p ∈ Lb, p ∈ nx)
    (hc : ¬(ph < e ∨ ph ≤ b)) : LInv g du f D ph ln tp tl all Lb vs' m' nx := by
  refine ⟨fun e => absurd e hg, rest, acc, items, n, hT, m1, m2, m3, m4, m5, hf9, hA, ?_, by omega, hL, hs⟩
  rw [← he]
  show _ = acc ++ (dueOne ph (b, e) ++ dueL ph rest)
  unfold dueOne; rw [if_neg hc, List.nil_append]
theorem LInv.start {g du f D : Addr} {h₀ h : Heap} {L : Addr} {ng : Nat} {ph ln : Int} {tp tl : Tok} {all : List (Int × Int)} {tl8 b9 : Led} {vs' : List Value} {m' : Str → Option Value} {n : Nat}
    (N : News h₀ L h (tl8 ++ (du, lstO [] n) :: b9)) (hg : (g, lstO vs' ng) ∈ tl8 ++ (du, lstO [] n) :: b9) (m1 : m' (Str.ofString "due") = some (.ref du)) (m2 : m' (Str.ofString "found") = some (.ref f)) (m3 : m' (Str.ofString "phase") = some (.int ph tp)) (m4 : m' (Str.ofString "length") = some (.int ln tl)) (m5 : m' (Str.ofString "steps") = some (.ref D))
    (hT : AllT (tl8 ++ (du, lstO [] n) :: b9) vs' all) (hl : all.length ≤ 400) (l8 : ∀ q ∈ (du, lstO [] n) :: b9, ∀ p ∈ tl8, q.1 ≠ p.1) (l3 : ∀ p ∈ b9, p.1 < du) : LInv g du f D ph ln tp tl all (tl8 ++ b9) vs' m' (tl8 ++ (du, lstO [] n) :: b9) := by
  refine ⟨fun e => empty_same N hg (List.mem_append.mpr (.inr (.head _))) e, all, [], [], n, hT, m1, m2, m3, m4, m5, List.mem_append.mpr (.inr (.head _)), .nil, rfl, by simpa using hl, fun p hp => ?_, fun p hp => ?_⟩
  · rcases List.mem_append.mp hp with hp | hp
    · exact Ne.symm (l8 _ (.head _) p hp)
    · exact Nat.ne_of_lt (l3 p hp)
  · rcases List.mem_append.mp hp with hp | hp
    · exact List.mem_append.mpr (.inl hp)
    · exact List.mem_append.mpr (.inr (.tail _ hp))
theorem ledOfT {LB : Led} {vs : List Value} {ts : List (Int × Int)} (_h : AllT LB vs ts) : ∃ L', L' = LB := ⟨_, rfl⟩
theorem base_off {tl b : Led} {du : Addr} {o : Obj} (h1 : ∀ q ∈ (du, o) :: b, ∀ p ∈ tl, q.1 ≠ p.1) (h2 : ∀ p ∈ b, p.1 < du) : ∀ p ∈ tl ++ b, p.1 ≠ du := by
  intro p hp
  rcases List.mem_append.mp hp with hp | hp
  · exact Ne.symm (h1 _ (.head _) p hp)
  · exact Nat.ne_of_lt (h2 p hp)
theorem base_sub {tl b : Led} {e : Addr × Obj} : ∀ p ∈ tl ++ b, p ∈ tl ++ e :: b := by
  intro p hp
  rcases List.mem_append.mp hp with hp | hp
  · exact List.mem_append.mpr (.inl hp)
  · exact List.mem_append.mpr (.inr (.tail _ hp))
end Mine
end

section
open PySem PySem.W PyProof.Rows PyProof.Rows.LCg
set_option maxRecDepth 100000
set_option maxHeartbeats 1000000
namespace Mine
def ptD (p : Int × Int) : PyData := .tuple [.int p.1, .int p.2]
theorem AllT.reads {h₀ h : Heap} {L : Addr} {nx : Led} (N : News h₀ L h nx) {vs : List Value} {ts : List (Int × Int)} (a : AllT nx vs ts) : ReadsAll h vs (ts.map ptD) [] := by
  induction a with
  | nil => exact .nil
  | cons h1 _ ih => exact ReadsAll.cons (as := []) (reads_tuple_at (N.get h1) rfl rfl (ReadsAll.cons (as := []) (.int _ _) (ReadsAll.cons (as := []) (.int _ _) .nil))) ih
theorem pt_lay (ts : List (Int × Int)) : PyData.canLayAll0 (ts.map ptD) = true := by
  induction ts with
  | nil => rfl
  | cons p r ih => rw [List.map_cons, PyData.canLayAll0, ih]; rfl
theorem pt_depth (ts : List (Int × Int)) : PyData.depthAll (ts.map ptD) ≤ 1 := by
  induction ts with
  | nil => exact Nat.zero_le _
  | cons p r ih =>
    rw [List.map_cons, PyData.depthAll]
    exact Nat.max_le.mpr ⟨Nat.le_refl _, ih⟩
theorem pt_shaped (ts : List (Int × Int)) : SeqAt.shaped (.list (ts.map ptD)) = true := by
  unfold SeqAt.shaped
  have h1 := pt_lay ts
  have h2 := pt_depth ts
  rw [PyData.canLay0, h1, PyData.depth, Bool.true_and]
  exact decide_eq_true (by omega)
section
variable {prog : Program} {w : World} {A : Around} {E : Value → Shared → Prop} {s : Shared} {h₀ : Heap} {L f g : Addr} {nx : Led} {Q : Value → Shared → Prop}
theorem ne_same {vs us : List Value} {ts : List (Int × Int)} {n k : Nat} (N : News h₀ L s.heap nx) (h1 : (f, lstO vs n) ∈ nx) (h2 : (g, lstO us k) ∈ nx) (a1 : AllT nx vs ts) (a2 : AllT nx us ts) (hu : A.units + 64 < cLine) (h : Q (.bool false) s) :
    wpAny (model prog w) A (compareOp .NotEq (.ref f) (.ref g)) Q E s := by
  refine ne_dataH (reads_list_at (N.get h1) rfl rfl (by simpa using a1.reads N)) (reads_list_at (N.get h2) rfl rfl (by simpa using a2.reads N)) (pt_shaped ts) (pt_shaped ts) hu ?_
  rw [SeqAt.eqv_refl _ (by rw [PyData.canLay0]; exact pt_lay ts)]
  exact h
end
end Mine
end

section
open PySem PySem.W PySem.Spec PySem.Calls PyProof.Rows PyProof.Rows.LCg
set_option maxRecDepth 100000
set_option maxHeartbeats 1000000
namespace Mine
def ltP (p : Int × Int) : Bool := decide (p.1 < p.2)
theorem AllT.get {news : Led} {vs : List Value} {ts : List (Int × Int)} (h : AllT news vs ts) : ∀ {i : Nat} {v : Value}, vs[i]? = some v → ∃ x a b t1 t2 n, v = .ref x ∧ ts[i]? = some (a, b) ∧ (x, ({ cls := .type "tuple", data := .seq [Value.int a t1, Value.int b t2].toArray n } : Obj)) ∈ news := by
  induction h with
  | nil => intro i v e; simp at e
  | cons h1 _ ih =>
    intro i v e
    cases i with
    | zero => simp at e; subst e; exact ⟨_, _, _, _, _, _, rfl, rfl, h1⟩
    | succ i => simpa using ih (by simpa using e)
theorem filt_snoc {ts : List (Int × Int)} {i : Nat} {p : Int × Int} (h : ts[i]? = some p) : (ts.take (i + 1)).filter ltP = (ts.take i).filter ltP ++ if ltP p then [p] else [] := by
  rw [← take_snoc h, List.filter_append]
  congr 1
  by_cases e : ltP p = true <;> simp [e]

section
variable {prog : Program} {w : World} {A : Around} {E : Value → Shared → Prop} {s : Shared} {h₀ : Heap} {L : Addr} {m : Str → Option Value} {env : Env}
theorem News.but {h h' : Heap} {a : Addr} {led : Led} (N : News h₀ L h led) (hk : ∀ b o, b ≠ a → h.get? b = some o → h'.get? b = some o) (hne : ∀ p ∈ led, p.1 ≠ a) : News h₀ L h' led :=
  fun p hp => ⟨hk _ _ (hne p hp) (N p hp).1, (N p hp).2⟩
theorem Fr.but {h h' : Heap} {a : Addr} (F : Fr h₀ L h m) (hk : ∀ b o, b ≠ a → h.get? b = some o → h'.get? b = some o) (hL : L ≠ a) (hn : h₀.get? a = none) : Fr h₀ L h' m :=
  fr_but F (fun b o hb e => hk b o (by simpa using hb) e) hL hn

theorem filt_loop {x y : Str} {q1 q2 q3 p1 p2 tp r1 r2 r3 pos : Pos} {tkk tkt : Nat} {iter : Expr} {scope : Scope} {cl : List (Str × Addr)} {s₂ : Shared} {I C D ax : Addr} {R : Result → Shared → Prop} {news : Led} {vs : List Value} {n : Nat} {ts : List (Int × Int)} {m₁ : Str → Option Value}
    (hh : A.handled = none) (hkind : scope.kind = .function) (hx : scope.names.lookup x = some .local) (hy : scope.names.lookup y = some .local) (hxy : x ≠ y) (hdx : (x == ("__debug__" : Str)) = false) (hdy : (y == ("__debug__" : Str)) = false)
    (hsz : vs.length ≤ 1000) (hIC : I ≠ C) (hID : I ≠ D) (hCD : C ≠ D) (hLI : L ≠ I) (hLC : L ≠ C) (hLD : L ≠ D) (hI₀ : h₀.get? I = none) (hC₀ : h₀.get? C = none) (hD₀ : h₀.get? D = none)
    (hm : (ax, lstO vs n) ∈ news) (hA : AllT news vs ts) (hit : s₂.heap.IsListIter I ax 0) (F : Fr h₀ L s₂.heap m) (N : News h₀ L s₂.heap news) (hC : s₂.heap.Ns C m₁) (hD : s₂.heap.get? D = some (lst []))
    (off : ∀ p ∈ news, p.1 ≠ I ∧ p.1 ≠ C ∧ p.1 ≠ D)
    (fin : ∀ h tk m' ys nx, Fr h₀ L h m → News h₀ L h nx → h.Ns C m' → h.get? D = some (lst ys) → (∀ p ∈ nx, p.1 ≠ I ∧ p.1 ≠ C ∧ p.1 ≠ D) → (∀ p ∈ news, p ∈ nx) → AllT nx ys (ts.filter ltP) → R (.ok .next) { s₂ with heap := h, toks := tk }) :
    codeAny (model prog w) A (.compLoop (.ListComp (.Tuple [.Name x q1, .Name y q2] tkk q3) [⟨.Tuple [.Name x p1, .Name y p2] tkt tp, iter, [.Compare (.Name x r1) [.Lt] [.Name y r2] r3], 0⟩] scope pos) 0 (.ref I) (.ref D) (compEnvC scope cl C env)) R s₂ := by
  have hts := hA.length
  have hax : ax ≠ I := (off _ hm).1
  have W := Walks.list (prog := prog) (w := w) (A := A) hh I ax hax vs.toArray
  refine codeAny_loop rfl (fun k s' => ∃ h tk i ys nx m', s' = { s₂ with heap := h, toks := tk } ∧ i ≤ vs.length ∧ k = vs.length + 1 - i ∧ ys.length ≤ i ∧ h.IsListIter I ax i ∧ Fr h₀ L h m ∧ h.Ns C m' ∧ h.get? D = some (lst ys) ∧ News h₀ L h nx ∧
    (∀ p ∈ nx, p.1 ≠ I ∧ p.1 ≠ C ∧ p.1 ≠ D) ∧ (∀ p ∈ news, p ∈ nx) ∧ AllT nx ys ((ts.take i).filter ltP)) ?_ (vs.length + 1) ⟨_, _, 0, [], news, _, rfl, Nat.zero_le _, rfl, Nat.le_refl _, hit, F, hC, hD, N, off, fun _ h => h, .nil⟩
  rintro k s' ⟨h, tk, i, ys, nx, m', rfl, hi, rfl, hyl, hit, F, hC, hD, N, off, hs, hY⟩
  show wpAny _ A ((compTurn _ 0 (.ref I) (.ref D) (compEnvC scope cl C env)).onRaise (fun x => do noteFrame x _; theTreesLotGoes x)) _ _ _
  refine wpAny_noted ?_
  rw [compTurn_list]
  refine wpAny_bind (wpAny_standAt (wpAny_bind ?_))
  have hl : h.IsList ax vs.toArray := ⟨_, N.get (hs _ hm), rfl, n, rfl⟩
  by_cases hlt : i < vs.length
  · refine W.item i _ _ _ (by simpa using hlt) ⟨hit, hl⟩ fun v h₂ tk₂ hPv hst₂ hk₂ => ?_
    have hk₂' : ∀ b o, b ≠ I → h.get? b = some o → h₂.get? b = some o := fun b o hb e => hk₂ b o (by simpa using hb) e
    obtain ⟨xa, a, b, t1, t2, nt, rfl, ht, hxm⟩ := hA.get (by simpa using hPv)
    have F₂ := Fr.but F hk₂' hLI hI₀
    have N₂ := News.but N hk₂' fun p hp => (off p hp).1
    have hC₂ : h₂.Ns C m' := hC.at' fun o e => hk₂' _ o (Ne.symm hIC) e
    have hD₂ := hk₂' _ _ (Ne.symm hID) hD
    have htup : IsTup h₂ xa #[Value.int a t1, Value.int b t2] := ⟨_, N₂.get (hs _ hxm), rfl, nt, rfl⟩
    refine wpAny_bind (wpAny_letOwnedTupleGo_listiter hst₂.1 (wpAny_bind ?_))
    refine assign_Tuple_tuple hh htup rfl rfl fun h₃ he => ?_
    have he' : ∀ b o, h₂.get? b = some o → h₃.get? b = some o := fun b o e => he b o (Nat.ne_of_lt (Heap.lt_size e)) e
    refine assignInOrder_cons (wpAny_assign_Name (wpAny_storeName_local (lookup_relabel_local hx) (hC₂.at' fun o e => he' _ o e) (fun h₄ hn₄ hs₄ => ?_) (by simp [compEnvC, relabel, hkind])))
    refine assignInOrder_cons (wpAny_assign_Name (wpAny_storeName_local (lookup_relabel_local hy) hn₄ (fun h₅ hn₅ hs₅ => ?_) (by simp [compEnvC, relabel, hkind])))
    refine assignInOrder_nil ?_
    have hk₅ : ∀ b o, b ≠ C → h₂.get? b = some o → h₅.get? b = some o := fun b o hb e => hs₅.extBut b o hb (hs₄.extBut b o hb (he' b o e))
    have F₅ := Fr.but F₂ hk₅ hLC hC₀
    have N₅ := News.but N₂ hk₅ fun p hp => (off p hp).2.1
    have hD₅ := hk₅ _ _ (Ne.symm hCD) hD₂
    have hI₅ : h₅.IsListIter I ax (i + 1) := by
      obtain ⟨o, e, r⟩ := hst₂.1
      exact ⟨o, hk₅ _ _ hIC e, r⟩
    have hkk : (compEnvC scope cl C env).scope.kind = .function := by simp [compEnvC, relabel, hkind]
    have hY₁ := filt_snoc ht
    refine wpAny_bind (wpAny_tests_one (wpAny_isTrue_Compare1 (ldVarK hn₅ (show _ = some (Value.int a t1) by simp [hxy]) (ldVarK hn₅ (show _ = some (Value.int b t2) by simp) (wpAny_lt_int (wpAny_truthy_bool ?_)) hkk (lookup_relabel_local hy) hdy) hkk (lookup_relabel_local hx) hdx)))
    by_cases hab : a < b
    · have e1 : ltP (a, b) = true := decide_eq_true hab
      rw [decide_eq_true hab]
      refine wpAny_bind (wpAny_bind (Tuple_ (spliced_more (ldVarK hn₅ (show _ = some (Value.int a t1) by simp [hxy]) (spliced_more (ldVarK hn₅ (show _ = some (Value.int b t2) by simp) (spliced_none (newTuple_NK F₅ N₅ (fun h₆ F₆ N₆ hk₆ => ?_))) hkk (lookup_relabel_local hy) hdy)) hkk (lookup_relabel_local hx) hdx))))
      have hlt₆ : ∀ p ∈ nx, p.1 ≠ h₅.objs.size := fun p hp => Nat.ne_of_lt (Heap.lt_size (N₅ p hp).1)
      have hI₆ : I ≠ h₅.objs.size := by obtain ⟨o, e, _⟩ := hI₅; exact Nat.ne_of_lt (Heap.lt_size e)
      have hC₆ : C ≠ h₅.objs.size := by obtain ⟨o, _, _, e, _⟩ := hn₅; exact Nat.ne_of_lt (Heap.lt_size e)
      have hD₆ : D ≠ h₅.objs.size := Nat.ne_of_lt (Heap.lt_size hD₅)
      refine wpAny_bind (append_at (hsz := by rw [List.size_toArray, sizeLine_eq]; omega) (hk₆ _ _ hD₅) fun h₇ hs₇ hD₇ => ?_)
      have hk₇ : ∀ b o, b ≠ D → h₆.get? b = some o → h₇.get? b = some o := fun b o hb e => hs₇.extBut b o hb e
      have hn₇ : h₇.Ns C _ := hn₅.at' fun o e => hk₇ _ o hCD (hk₆ _ _ e)
      refine wpAny_pure (wpAny_pure ⟨rfl, vs.length + 1 - (i + 1), by omega, h₇, _, i + 1, ys ++ [_], _, _, rfl, hlt, rfl, by simp; omega, ?_, Fr.but F₆ hk₇ hLD hD₀, hn₇, by rw [← lst_snoc]; exact hD₇, News.but N₆ hk₇ ?_, ?_, ?_, ?_⟩)
      · obtain ⟨o, e, r⟩ := hI₅
        exact ⟨o, hk₇ _ _ hID (hk₆ _ _ e), r⟩
      · intro p hp
        rcases List.mem_cons.mp hp with rfl | hp
        · exact hD₆.symm
        · exact (off p hp).2.2
      · intro p hp
        rcases List.mem_cons.mp hp with rfl | hp
        · exact ⟨hI₆.symm, hC₆.symm, hD₆.symm⟩
        · exact off p hp
      · exact fun p hp => .tail _ (hs p hp)
      · rw [hY₁, e1, if_pos rfl]
        exact (hY.mono fun _ h => .tail _ h).snoc (.cons (.head _) .nil)
    · have e1 : ltP (a, b) = false := decide_eq_false hab
      rw [decide_eq_false hab]
      refine wpAny_pure ⟨rfl, vs.length + 1 - (i + 1), by omega, h₅, _, i + 1, ys, nx, _, rfl, hlt, rfl, Nat.le_succ_of_le hyl, hI₅, F₅, hn₅, hD₅, N₅, off, hs, ?_⟩
      rw [hY₁, e1]
      simpa using hY
  · obtain rfl : i = vs.length := Nat.le_antisymm hi (Nat.not_lt.mp hlt)
    refine W.done _ _ _ ⟨by simpa using hit, hl⟩ fun h₂ tk₂ hk₂ => ?_
    have hk₂' : ∀ b o, b ≠ I → h.get? b = some o → h₂.get? b = some o := fun b o hb e => hk₂ b o (by simpa using hb) e
    rw [hts, List.take_length] at hY
    exact wpAny_pure (fin h₂ _ m' ys nx (Fr.but F hk₂' hLI hI₀) (News.but N hk₂' fun p hp => (off p hp).1) (hC.at' fun o e => hk₂' _ o (Ne.symm hIC) e) (hk₂' _ _ (Ne.symm hID) hD) off hs hY)

theorem filt_start {x y : Str} {q1 q2 q3 p1 p2 tp r1 r2 r3 pos : Pos} {tkk tkt : Nat} {iter : Expr} {scope : Scope} {cl : List (Str × Addr)} {s₁ : Shared} {ax : Addr} {RR : Value → Addr → Result → Shared → Prop} {news : Led} {vs : List Value} {n : Nat} {ts : List (Int × Int)}
    (hh : A.handled = none) (hkind : scope.kind = .function) (hcell : ∀ z ∈ scope.names, z.2 ≠ .cell) (hx : scope.names.lookup x = some .local) (hy : scope.names.lookup y = some .local) (hxy : x ≠ y) (hdx : (x == ("__debug__" : Str)) = false) (hdy : (y == ("__debug__" : Str)) = false)
    (hsz : vs.length ≤ 1000) (hm : (ax, lstO vs n) ∈ news) (hA : AllT news vs ts) (F : Fr h₀ L s₁.heap m) (N : News h₀ L s₁.heap news)
    (fin : ∀ D C h tk m' ys nx, Fr h₀ L h m → News h₀ L h nx → h.Ns C m' → h.get? D = some (lst ys) → (∀ p ∈ nx, p.1 ≠ C ∧ p.1 ≠ D) → C ≠ D → L ≠ C → L ≠ D → h₀.get? C = none → h₀.get? D = none → (∀ p ∈ news, p.1 ≠ D) → (∀ p ∈ news, p ∈ nx) → AllT nx ys (ts.filter ltP) → RR (.ref D) C (.ok .next) { s₁ with heap := h, toks := tk }) :
    wpAny (model prog w) A (pyIter (.ref ax)) (fun it s₂ => wpAny (model prog w) A (newList []) (fun acc s₃ => wpAny (model prog w) A (newFunctionEnv scope env.globals cl [] env.qual none .none (some env)) (fun cenv s₄ =>
      codeAny (model prog w) A (.compStart (.ListComp (.Tuple [.Name x q1, .Name y q2] tkk q3) [⟨.Tuple [.Name x p1, .Name y p2] tkt tp, iter, [.Compare (.Name x r1) [.Lt] [.Name y r2] r3], 0⟩] scope pos) 0 it acc { cenv with scope := relabel scope env }) (RR acc cenv.locals) s₄) E s₃) E s₂) E s₁ := by
  have hl : s₁.heap.IsList ax vs.toArray := ⟨_, N.get hm, rfl, n, rfl⟩
  refine wpAny_pyIter_list hl (wpAny_newObj_type (wpAny_newFunctionEnv hcell (by intro z hz; simp at hz) (fun h₁ hns hsb => ?_) hkind))
  dsimp only at hns hsb ⊢
  generalize hH1 : s₁.heap.push { cls := .type "list_iterator", dict := none, data := .fields #[.ref ax, .int 0 0] } = H1 at hns hsb ⊢
  generalize hH2 : H1.push { cls := .type "list", dict := none, data := .seq ([] : List Value).toArray } = H2 at hns hsb ⊢
  have e1 : H1.objs.size = s₁.heap.objs.size + 1 := by rw [← hH1, Heap.size_push]
  have e2 : H2.objs.size = s₁.heap.objs.size + 2 := by rw [← hH2, Heap.size_push, e1]
  have up1 : ∀ b o, s₁.heap.get? b = some o → H1.get? b = some o := fun b o e => hH1 ▸ Heap.get?_push_of_some _ e
  have up2 : ∀ b o, H1.get? b = some o → H2.get? b = some o := fun b o e => hH2 ▸ Heap.get?_push_of_some _ e
  have up3 : ∀ b o, b ≠ H2.objs.size → H2.get? b = some o → h₁.get? b = some o := fun b o hb e => hsb.extBut b o hb (Heap.get?_push_of_some _ e)
  have lt1 : ∀ b o, s₁.heap.get? b = some o → @LT.lt Nat _ b s₁.heap.objs.size := fun b o e => Heap.lt_size e
  have keep : ∀ b o, s₁.heap.get? b = some o → h₁.get? b = some o := fun b o e => up3 b o (by have := lt1 b o e; rw [e2]; exact Nat.ne_of_lt (by omega)) (up2 b o (up1 b o e))
  have hI : H1.get? s₁.heap.objs.size = some { cls := .type "list_iterator", dict := none, data := .fields #[.ref ax, .int 0 0] } := hH1 ▸ Heap.get?_push_size _ rfl
  have hit : h₁.IsListIter s₁.heap.objs.size ax 0 := ⟨_, up3 _ _ (by rw [e2]; exact Nat.ne_of_lt (by omega)) (up2 _ _ hI), rfl, rfl⟩
  have hD : h₁.get? H1.objs.size = some (lst []) := up3 _ _ (by rw [e1, e2]; exact Nat.ne_of_lt (by omega)) (hH2 ▸ Heap.get?_push_size _ rfl)
  have fresh : ∀ a, s₁.heap.objs.size ≤ a → h₀.get? a = none := fun a ha => by
    cases e : h₀.get? a with
    | none => rfl
    | some o => exact absurd (lt1 _ _ (F.keep a o e)) (Nat.not_lt.mpr ha)
  have hLlt : @LT.lt Nat _ L s₁.heap.objs.size := F.ns.lt
  have old : ∀ p ∈ news, @LT.lt Nat _ p.1 s₁.heap.objs.size := fun p hp => lt1 _ _ (N p hp).1
  refine codeAny_compStart_list ?_ (wpAny_pyIter_listiter hit ?_)
  all_goals
    refine filt_loop (s₂ := { s₁ with heap := h₁, toks := _ }) hh hkind hx hy hxy hdx hdy hsz (I := s₁.heap.objs.size) (D := H1.objs.size) (C := H2.objs.size) (by rw [e2]; exact Nat.ne_of_lt (by omega)) (by rw [e1]; exact Nat.ne_of_lt (by omega)) (by rw [e1, e2]; exact Nat.ne_of_gt (by omega)) (Nat.ne_of_lt hLlt) (by rw [e2]; exact Nat.ne_of_lt (by omega)) (by rw [e1]; exact Nat.ne_of_lt (by omega))
      (fresh _ (Nat.le_refl _)) (fresh _ (by rw [e2]; omega)) (fresh _ (by rw [e1]; omega)) hm hA hit (F.keeps keep) (N.grown keep) hns hD (fun p hp => ?_) fun h tk m' ys nx F' N' hC' hD' off' hs' hA' => ?_
    · have := old p hp
      exact ⟨Nat.ne_of_lt this, by rw [e2]; exact Nat.ne_of_lt (by omega), by rw [e1]; exact Nat.ne_of_lt (by omega)⟩
    · exact fin H1.objs.size H2.objs.size h tk m' ys nx F' N' hC' hD' (fun p hp => (off' p hp).2) (by rw [e1, e2]; exact Nat.ne_of_gt (by omega)) (by rw [e2]; exact Nat.ne_of_lt (by omega)) (by rw [e1]; exact Nat.ne_of_lt (by omega)) (fresh _ (by rw [e2]; omega)) (fresh _ (by rw [e1]; omega)) (fun p hp => by have := old p hp; rw [e1]; exact Nat.ne_of_lt (by omega)) hs' hA'

def SrcF (A : Around) (h₀ : Heap) (L : Addr) (m : Str → Option Value) (m2 : Addr → Str → Option Value) (Fin : Addr → Shared → Prop) (xv : Value) (s₁ : Shared) : Prop :=
  ∃ ax vs n ts news, xv = .ref ax ∧ A.handled = none ∧ Fr h₀ L s₁.heap m ∧ News h₀ L s₁.heap news ∧ (ax, lstO vs n) ∈ news ∧ AllT news vs ts ∧ vs.length ≤ 1000 ∧
    ∀ D h tk ys nx, Fr h₀ L h (m2 D) → News h₀ L h nx → (D, lst ys) ∈ nx → (∀ p ∈ news, p.1 ≠ D) → (∀ p ∈ news, p ∈ nx) → AllT nx ys (ts.filter ltP) → Fin D { s₁ with heap := h, toks := tk }
theorem SrcF.mk {m2 : Addr → Str → Option Value} {Fin : Addr → Shared → Prop} {ax : Addr} {vs : List Value} {n : Nat} {ts : List (Int × Int)} {news : Led} {s₁ : Shared} (hh : A.handled = none) (F : Fr h₀ L s₁.heap m) (N : News h₀ L s₁.heap news) (hm : (ax, lstO vs n) ∈ news) (hA : AllT news vs ts) (hsz : vs.length ≤ 1000)
    (h : ∀ D h tk ys nx, Fr h₀ L h (m2 D) → News h₀ L h nx → (D, lst ys) ∈ nx → (∀ p ∈ news, p.1 ≠ D) → (∀ p ∈ news, p ∈ nx) → AllT nx ys (ts.filter ltP) → Fin D { s₁ with heap := h, toks := tk }) : SrcF A h₀ L m m2 Fin (.ref ax) s₁ :=
  ⟨ax, vs, n, ts, news, rfl, hh, F, N, hm, hA, hsz, h⟩

theorem ListComp_F {x y : Str} {q1 q2 q3 p1 p2 tp r1 r2 r3 pos : Pos} {tkk tkt : Nat} {iter : Expr} {scope : Scope} {cl : List (Str × Addr)} {Q : Value → Shared → Prop} (_F₀ : Fr h₀ L s.heap m)
    (hclos : closureFor scope env = pure cl) (hcell : ∀ z ∈ scope.names, z.2 ≠ .cell) (hkind : scope.kind = .function) (hnames : ∀ z ∈ scope.names, z.2 = .local → scope.names.lookup z.1 = some .local)
    (hx : scope.names.lookup x = some .local) (hy : scope.names.lookup y = some .local) (hxy : x ≠ y) (hdx : (x == ("__debug__" : Str)) = false) (hdy : (y == ("__debug__" : Str)) = false)
    (h : wpAny (model prog w) A (eval iter env) (SrcF A h₀ L m (fun _ => m) (fun D => Q (.ref D))) E s) (hs : ∀ x, foldedSetIterable iter env x = pure x := by intro _; rfl) :
    wpAny (model prog w) A (eval (.ListComp (.Tuple [.Name x q1, .Name y q2] tkk q3) [⟨.Tuple [.Name x p1, .Name y p2] tkt tp, iter, [.Compare (.Name x r1) [.Lt] [.Name y r2] r3], 0⟩] scope pos) env) Q E s := by
  rw [eval_ListComp]
  refine wpAny_comprehension_free (use := none) rfl hs hclos hkind hnames (wpAny_mono h (fun xv s₁ h₁ => ?_) fun _ _ e => e)
  obtain ⟨ax, vs, n, ts, news, rfl, hh, F, N, hm, hA, hsz, fin⟩ := h₁
  refine filt_start hh hkind hcell hx hy hxy hdx hdy hsz hm hA F N fun D C h tk m' ys nx F' N' hC hD off hCD hLC hLD hC₀ hD₀ hnD hs' hA' => ?_
  refine ⟨m', hC, fun h'' hs'' => fin D h'' tk ys ((D, lst ys) :: nx) (F'.change hs'' (Ne.symm hLC) hC₀) (fun p hp => ?_) (.head _) hnD (fun p hp => .tail _ (hs' p hp)) (hA'.mono fun _ h => .tail _ h)⟩
  rcases List.mem_cons.mp hp with rfl | hp
  · exact ⟨hs''.extBut _ _ (Ne.symm hCD) hD, Ne.symm hLD, hD₀⟩
  · exact ⟨hs''.extBut _ _ (off p hp).1 (N' p hp).1, (N' p hp).2⟩

theorem Assign_F {x y z : Str} {q1 q2 q3 p1 p2 tp r1 r2 r3 pos spos pz : Pos} {tkk tkt : Nat} {iter : Expr} {scope : Scope} {cl : List (Str × Addr)} {Q : Flow → Shared → Prop} (_F₀ : Fr h₀ L s.heap m) (hLe : env.locals = L)
    (hsw : swapsWith (.ListComp (.Tuple [.Name x q1, .Name y q2] tkk q3) [⟨.Tuple [.Name x p1, .Name y p2] tkt tp, iter, [.Compare (.Name x r1) [.Lt] [.Name y r2] r3], 0⟩] scope pos) (some (.Name z pz)) spos.line env = pure true)
    (hclos : closureFor scope env = pure cl) (hcell : ∀ z ∈ scope.names, z.2 ≠ .cell) (hkind : scope.kind = .function) (hnames : ∀ z ∈ scope.names, z.2 = .local → scope.names.lookup z.1 = some .local)
    (hx : scope.names.lookup x = some .local) (hy : scope.names.lookup y = some .local) (hxy : x ≠ y) (hdx : (x == ("__debug__" : Str)) = false) (hdy : (y == ("__debug__" : Str)) = false)
    (hz : env.kindOf z = some .local) (hp : (env.scope.kind == .class || (env.scope.kind == .module && env.locals != env.globals)) = false)
    (h : wpAny (model prog w) A (eval iter env) (SrcF A h₀ L m (fun D u => if u = z then some (.ref D) else m u) (fun _ => Q .next)) E s) (hs : ∀ x, foldedSetIterable iter env x = pure x := by intro _; rfl) :
    wpAny (model prog w) A (exec (.Assign [.Name z pz] (.ListComp (.Tuple [.Name x q1, .Name y q2] tkk q3) [⟨.Tuple [.Name x p1, .Name y p2] tkt tp, iter, [.Compare (.Name x r1) [.Lt] [.Name y r2] r3], 0⟩] scope pos) spos) env) Q E s := by
  subst hLe
  rw [exec_Assign_Name_used _ _ _ _ hsw]
  refine wpAny_bind (wpAny_standAt (wpAny_bind ?_))
  show wpAny _ A (do let _ ← comprehension (.ListComp (.Tuple [.Name x q1, .Name y q2] tkk q3) [⟨.Tuple [.Name x p1, .Name y p2] tkt tp, iter, [.Compare (.Name x r1) [.Lt] [.Name y r2] r3], 0⟩] scope pos) scope env _ (newList []) false (eval iter env) (some (assign (.Name z pz) env))) _ _ s
  refine wpAny_bind (wpAny_mono (wpAny_comprehension_free (use := some (assign (.Name z pz) env)) (Q := fun _ s' => Q .next s') rfl hs hclos hkind hnames
    (wpAny_mono h (fun xv s₁ h₁ => ?_) fun _ _ e => e)) (fun _ s' hq => wpAny_pure (wpAny_pure hq)) fun _ _ e => e)
  obtain ⟨ax, vs, n, ts, news, rfl, hh, F, N, hm, hA, hsz, fin⟩ := h₁
  refine filt_start hh hkind hcell hx hy hxy hdx hdy hsz hm hA F N fun D C h' tk m' ys nx F' N' hC hD off hCD hLC hLD hC₀ hD₀ hnD hs' hA' => ?_
  show wpAny _ A (assign (.Name z pz) env (.ref D)) _ _ _
  refine wpAny_assign_Name (wpAny_storeName_local hz F'.ns (fun h₂ hn₂ hs₂ => ?_) hp)
  have hL₀ : h₀.get? env.locals = none := Heap.get?_none_of_le F'.above
  have F₂ : Fr h₀ env.locals h₂ (fun u => if u = z then some (.ref D) else m u) := F'.set hn₂ hs₂
  refine ⟨m', hC.sameBut hs₂ (Ne.symm hLC), fun h'' hs'' => fin D h'' _ ys ((D, lst ys) :: nx) (F₂.change hs'' (Ne.symm hLC) hC₀) (fun p hp => ?_) (.head _) hnD (fun p hp => .tail _ (hs' p hp)) (hA'.mono fun _ h => .tail _ h)⟩
  rcases List.mem_cons.mp hp with rfl | hp
  · exact ⟨hs''.extBut _ _ (Ne.symm hCD) (hs₂.extBut _ _ (Ne.symm hLD) hD), Ne.symm hLD, hD₀⟩
  · exact ⟨hs''.extBut _ _ (off p hp).1 (hs₂.extBut _ _ (N' p hp).2.1 (N' p hp).1), (N' p hp).2⟩

theorem sum_led {l : Addr} {vs : List Value} {ns : List Int} {n : Nat} {news : Led} {Q : Value → Shared → Prop} (hh : A.handled = none) (F : Fr h₀ L s.heap m) (N : News h₀ L s.heap news) (hm : (l, lstO vs n) ∈ news) (hi : IntsAre vs ns)
    (h : ∀ h' tk t', Fr h₀ L h' m → News h₀ L h' news → Q (.int ns.sum t') { s with heap := h', toks := tk }) : wpAny (model prog w) A (call (.builtin "sum") [.ref l]) Q E s :=
  sumK hh F N ⟨_, N.get hm, rfl, n, rfl⟩ hi h
end
end Mine
end

section
open PySem PySem.W PyProof.Rows PyProof.Rows.LCg
set_option maxRecDepth 100000
set_option maxHeartbeats 1000000
namespace Mine
def flat : List (Int × Int) → List Int
  | [] => []
  | p :: r => p.1 :: p.2 :: flat r
theorem flat_snoc {l : List (Int × Int)} {p : Int × Int} : flat (l ++ [p]) = flat l ++ [p.1, p.2] := by
  induction l with
  | nil => rfl
  | cons q r ih => show q.1 :: q.2 :: flat (r ++ [p]) = _; rw [ih]; rfl
theorem flat_len {l : List (Int × Int)} : (flat l).length = 2 * l.length := by
  induction l with
  | nil => rfl
  | cons q r ih => show (q.1 :: q.2 :: flat r).length = _; simp only [List.length_cons, ih]; omega
theorem map2 {m : Str → Option Value} {x1 x2 : Str} {v1 v2 : Value} (h1 : m x1 = some v1) (h2 : m x2 = some v2) : m = fun y => if y = x1 then some v1 else if y = x2 then some v2 else m y := by
  funext y
  by_cases e1 : y = x1
  · subst e1; simp [h1]
  by_cases e2 : y = x2
  · subst e2; simp [e1, h2]
  simp [e1, e2]
/-- the law's names during its last loop -/
def EInv (ln : Int) (tl : Tok) (all : List (Int × Int)) (vs' : List Value) (m : Str → Option Value) (nx : Led) : Prop :=
  ∃ rest done items n en ns, AllT nx vs' rest ∧ m (Str.ofString "ends") = some (.ref en) ∧ m (Str.ofString "length") = some (.int ln tl) ∧ (en, lstO items n) ∈ nx ∧ IntsAre items ns ∧ ns = 0 :: flat done ∧ done ++ rest = all
theorem EInv.len {done rest all : List (Int × Int)} {ns : List Int} (e : ns = 0 :: flat done) (h : done ++ rest = all) (hl : all.length ≤ 400) : ns.length ≤ 801 := by
  subst h; rw [e, List.length_cons, flat_len]; rw [List.length_append] at hl; omega
end Mine
end

section
open PySem PySem.W PyProof.Rows PyProof.Rows.LCg
set_option maxRecDepth 100000
set_option maxHeartbeats 1000000
namespace Mine
/-- what the law draws: the bounds -/
structure Okd (ns : List Int) (ph T : Int) : Prop where
  n0 : 0 < ns.length
  n4 : ns.length ≤ 4
  hr : ∀ x ∈ ns, 0 ≤ x ∧ x < 12
  hs : 3 ≤ ns.sum
  p0 : 0 ≤ ph
  p1 : ph ≤ 24
  t0 : 0 < T
  t1 : T ≤ 30
theorem Okd.nn {ns : List Int} {ph T : Int} (h : Okd ns ph T) : ∀ x ∈ ns, 0 ≤ x := fun x hx => (h.hr x hx).1

/-- one turn -/
def oneTurn (ts : List Int) (ph T : Int) (k : Nat) : List (Int × Int) := if pos ts ph k < T then drawn ts ph T k else []
theorem upTo_succ (ts : List Int) (ph T : Int) (k : Nat) : spansUpTo ts ph T (k + 1) = spansUpTo ts ph T k ++ oneTurn ts ph T k := rfl
theorem pos_shift (ts : List Int) (ph : Int) : ∀ k, pos ts ph k = pos ts 0 k - ph := by
  intro k
  induction k with
  | zero => show - ph = - 0 - ph; omega
  | succ k ih => show pos ts ph k + _ = pos ts 0 k + _ - ph; omega
theorem pos0_nn {ts : List Int} (h0 : ∀ x ∈ ts, 0 ≤ x) (k : Nat) : 0 ≤ pos ts 0 k := by
  have := pos_mono h0 0 (Nat.zero_le k)
  exact this

/-- law a -/
theorem dueL_app (ph : Int) (a b : List (Int × Int)) : dueL ph (a ++ b) = dueL ph a ++ dueL ph b := by
  induction a with
  | nil => rfl
  | cons p r ih => show dueOne ph p ++ dueL ph (r ++ b) = (dueOne ph p ++ dueL ph r) ++ dueL ph b; rw [ih, List.append_assoc]
theorem dueL_one (ph : Int) (p : Int × Int) : dueL ph [p] = dueOne ph p := List.append_nil _
theorem cell_a {ts : List Int} {ph T : Int} (h0 : ∀ x ∈ ts, 0 ≤ x) (hp : 0 ≤ ph) (hT : 0 < T) (k : Nat) : dueL ph (oneTurn ts 0 (ph + T) k) = oneTurn ts ph T k := by
  have h1 := pos0_nn h0 k
  have h2 := pos_step h0 0 k
  unfold oneTurn drawn
  rw [pos_shift ts ph k, pos_shift ts ph (k + 1)]
  generalize pos ts 0 k = p at h1 h2
  generalize pos ts 0 (k + 1) = q at h2
  by_cases e1 : p < ph + T
  · rw [if_pos e1, if_pos (c := p - ph < T) (by omega)]
    by_cases e2 : k % 2 = 0
    · rw [if_pos (c := k % 2 = 0 ∧ (0 < q ∨ 0 ≤ p)) ⟨e2, .inr h1⟩, dueL_one]
      unfold dueOne
      by_cases e3 : 0 < q - ph ∨ 0 ≤ p - ph
      · rw [if_pos (c := k % 2 = 0 ∧ (0 < q - ph ∨ 0 ≤ p - ph)) ⟨e2, e3⟩, if_pos (by show ph < min q (ph + T) ∨ ph ≤ max p 0; omega)]
        have i1 : max (max p 0) ph - ph = max (p - ph) 0 := by omega
        have i2 : min q (ph + T) - ph = min (q - ph) T := by omega
        show [(max (max p 0) ph - ph, min q (ph + T) - ph)] = _
        rw [i1, i2]
      · rw [if_neg (c := k % 2 = 0 ∧ (0 < q - ph ∨ 0 ≤ p - ph)) (fun h => e3 h.2), if_neg (by show ¬ (ph < min q (ph + T) ∨ ph ≤ max p 0); omega)]
    · rw [if_neg (c := k % 2 = 0 ∧ (0 < q ∨ 0 ≤ p)) (fun h => e2 h.1), if_neg (c := k % 2 = 0 ∧ (0 < q - ph ∨ 0 ≤ p - ph)) (fun h => e2 h.1)]; rfl
  · rw [if_neg e1, if_neg (by omega)]; rfl
theorem upTo_a {ts : List Int} {ph T : Int} (h0 : ∀ x ∈ ts, 0 ≤ x) (hp : 0 ≤ ph) (hT : 0 < T) : ∀ k, dueL ph (spansUpTo ts 0 (ph + T) k) = spansUpTo ts ph T k := by
  intro k
  induction k with
  | zero => rfl
  | succ k ih => rw [upTo_succ, upTo_succ, dueL_app, ih, cell_a h0 hp hT]
theorem law_a {ns : List Int} {ph T : Int} {a b : List (Int × Int)} (ok : Okd ns ph T) (ha : IsS a ns ph T) (hb : IsS b ns 0 (ph + T)) : dueL ph b = a := by
  rw [ha.eq, hb.eq]; exact upTo_a ok.nn ok.p0 ok.t0 400

/-- law b -/
theorem pos_turn (ts : List Int) (hn : 0 < ts.length) (ph : Int) (k : Nat) : pos ts ph (k + ts.length) = pos ts ph k + ts.sum := by
  have e := Nat.div_add_mod k ts.length
  have hl := Nat.mod_lt k hn
  have h1 := pos_within ts ph (k / ts.length) (k % ts.length) (by omega)
  have h2 := pos_within ts ph (k / ts.length + 1) (k % ts.length) (by omega)
  have e1 : k / ts.length * ts.length + k % ts.length = k := by rw [Nat.mul_comm]; exact e
  have e2 : (k / ts.length + 1) * ts.length + k % ts.length = k + ts.length := by rw [Nat.succ_mul]; omega
  rw [e1, pos_period] at h1
  rw [e2, pos_period] at h2
  rw [h1, h2]; push_cast; rw [Int.add_mul]; omega
theorem pos_turns (ts : List Int) (hn : 0 < ts.length) (ph : Int) (k a : Nat) : pos ts ph (k + a * ts.length) = pos ts ph k + a * ts.sum := by
  induction a with
  | zero => simp
  | succ a ih => rw [Nat.succ_mul, ← Nat.add_assoc, pos_turn ts hn, ih]; push_cast; rw [Int.add_mul]; omega
theorem par2 (n : Nat) : Int.fmod (n : Int) 2 = ((n % 2 : Nat) : Int) := by
  rw [Int.fmod_eq_emod_of_nonneg _ (by omega)]; omega
/-- the turns of a whole pattern -/
def wholeN (ns : List Int) : Nat := (1 + ns.length % 2) * ns.length
theorem whole_even (ns : List Int) : wholeN ns % 2 = 0 := by
  unfold wholeN
  rcases Nat.mod_two_eq_zero_or_one ns.length with h | h <;> rw [h] <;> omega
theorem whole_eq (ns : List Int) : ns.sum * (1 + Int.fmod (ns.length : Int) 2) = ((1 + ns.length % 2 : Nat) : Int) * ns.sum := by
  rw [par2, Int.mul_comm]; push_cast; rfl
theorem pos_whole {ns : List Int} (hn : 0 < ns.length) (ph : Int) (k : Nat) : pos ns (ph + ns.sum * (1 + Int.fmod (ns.length : Int) 2)) (wholeN ns + k) = pos ns ph k := by
  have h := pos_turns ns hn 0 k (1 + ns.length % 2)
  rw [pos_shift, pos_shift ns ph k, whole_eq, Nat.add_comm (wholeN ns) k]
  unfold wholeN
  rw [h]; omega
theorem whole_ok {ns : List Int} {ph T : Int} (ok : Okd ns ph T) : 0 ≤ ns.sum * (1 + Int.fmod (ns.length : Int) 2) ∧ ns.sum * (1 + Int.fmod (ns.length : Int) 2) ≤ 66 := by
  have h1 := sum_le fun x hx => (ok.hr x hx).2
  have h2 := ok.hs
  have h3 := ok.n0
  have h4 := ok.n4
  rw [par2]
  generalize ns.sum = z at *
  generalize ns.length = n at *
  rcases (show n = 1 ∨ n = 2 ∨ n = 3 ∨ n = 4 by omega) with rfl | rfl | rfl | rfl <;> simp <;> omega
theorem cell_shift {ns : List Int} (hn : 0 < ns.length) (ph T : Int) (k : Nat) : oneTurn ns (ph + ns.sum * (1 + Int.fmod (ns.length : Int) 2)) T (wholeN ns + k) = oneTurn ns ph T k := by
  have h1 := pos_whole hn ph k
  have h2 := pos_whole hn ph (k + 1)
  have h3 := whole_even ns
  unfold oneTurn drawn
  rw [Nat.add_assoc, h1, h2]
  have e : (wholeN ns + k) % 2 = k % 2 := by omega
  rw [e]
theorem cell_low {ts : List Int} {ph T : Int} (h0 : ∀ x ∈ ts, 0 ≤ x) (k : Nat) (h : pos ts ph (k + 1) ≤ 0) : (oneTurn ts ph T k).filter ltP = [] := by
  have h1 := pos_step h0 ph k
  unfold oneTurn drawn
  by_cases e1 : pos ts ph k < T
  · rw [if_pos e1]
    by_cases e2 : k % 2 = 0 ∧ (0 < pos ts ph (k + 1) ∨ 0 ≤ pos ts ph k)
    · rw [if_pos e2]
      have e3 : ltP (max (pos ts ph k) 0, min (pos ts ph (k + 1)) T) = false := by
        unfold ltP
        rw [decide_eq_false_iff_not]
        show ¬ max (pos ts ph k) 0 < min (pos ts ph (k + 1)) T
        omega
      rw [List.filter_cons, e3]; rfl
    · rw [if_neg e2]; rfl
  · rw [if_neg e1]; rfl
theorem upTo_low {ts : List Int} {ph T : Int} (h0 : ∀ x ∈ ts, 0 ≤ x) : ∀ k, pos ts ph k ≤ 0 → (spansUpTo ts ph T k).filter ltP = [] := by
  intro k
  induction k with
  | zero => intro _; rfl
  | succ k ih =>
    intro h
    have := pos_step h0 ph k
    rw [upTo_succ, List.filter_append, ih (by omega), cell_low h0 k h]; rfl
theorem upTo_b {ns : List Int} (hn : 0 < ns.length) (h0 : ∀ x ∈ ns, 0 ≤ x) {ph T : Int} (hp : 0 ≤ ph) : ∀ k, (spansUpTo ns (ph + ns.sum * (1 + Int.fmod (ns.length : Int) 2)) T (wholeN ns + k)).filter ltP = (spansUpTo ns ph T k).filter ltP := by
  intro k
  induction k with
  | zero =>
    refine upTo_low h0 _ ?_
    rw [pos_whole hn ph 0]
    show - ph ≤ 0
    omega
  | succ k ih => rw [← Nat.add_assoc, upTo_succ, upTo_succ, List.filter_append, List.filter_append, ih, cell_shift hn]
theorem law_b {ns : List Int} {ph T : Int} {a b : List (Int × Int)} (ok : Okd ns ph T) (ha : IsS a ns ph T) (hb : IsS b ns (ph + ns.sum * (1 + Int.fmod (ns.length : Int) 2)) T) : b.filter ltP = a.filter ltP := by
  rw [ha.eq, hb.eq]
  have hw := whole_ok ok
  have hb4 := bound_ok (ts := ns) (ph := ph + ns.sum * (1 + Int.fmod (ns.length : Int) 2)) (T := T) ok.n0 (by have := ok.n4; omega) ok.nn ok.hs (by have := ok.p1; have := ok.t1; omega) 400
  have hT : T ≤ pos ns (ph + ns.sum * (1 + Int.fmod (ns.length : Int) 2)) 400 := by
    refine Int.not_lt.mp fun h => ?_
    have := hb4 h
    omega
  show (spansUpTo _ _ _ 400).filter ltP = (spansUpTo _ _ _ 400).filter ltP
  rw [← upTo_b ok.n0 ok.nn ok.p0 400, Nat.add_comm (wholeN ns) 400, upTo_more ok.nn hT]

/-- law c -/
theorem pos_dbl (ns : List Int) (ph : Int) : ∀ k, pos (ns ++ ns) ph k = pos ns ph k := by
  intro k
  induction k with
  | zero => rfl
  | succ k ih =>
    show pos (ns ++ ns) ph k + (ns ++ ns).getD (k % (ns ++ ns).length) 0 = pos ns ph k + ns.getD (k % ns.length) 0
    rw [ih]
    congr 1
    rcases Nat.eq_zero_or_pos ns.length with h | h
    · rw [List.length_eq_zero_iff.mp h]; rfl
    · have e0 : k % (2 * ns.length) % ns.length = k % ns.length := Nat.mod_mod_of_dvd _ ⟨2, Nat.mul_comm _ _⟩
      have e1 := Nat.mod_lt k (show 0 < 2 * ns.length by omega)
      have e2 : (ns ++ ns).length = 2 * ns.length := by rw [List.length_append]; omega
      rw [e2, ← e0, List.getD_eq_getElem?_getD, List.getD_eq_getElem?_getD]
      generalize k % (2 * ns.length) = j at e1
      by_cases hj : j < ns.length
      · rw [List.getElem?_append_left hj, Nat.mod_eq_of_lt hj]
      · rw [List.getElem?_append_right (by omega), Nat.mod_eq_sub_mod (by omega), Nat.mod_eq_of_lt (by omega)]
theorem cell_c (ns : List Int) (ph T : Int) (k : Nat) : oneTurn (ns ++ ns) ph T k = oneTurn ns ph T k := by
  unfold oneTurn drawn
  rw [pos_dbl, pos_dbl]
theorem upTo_c (ns : List Int) (ph T : Int) : ∀ k, spansUpTo (ns ++ ns) ph T k = spansUpTo ns ph T k := by
  intro k
  induction k with
  | zero => rfl
  | succ k ih => rw [upTo_succ, upTo_succ, ih, cell_c]
theorem law_c {ns : List Int} {ph T : Int} {a b : List (Int × Int)} (ha : IsS a ns ph T) (hb : IsS b (ns ++ ns) ph T) : b = a := by
  rw [ha.eq, hb.eq]; exact upTo_c ns ph T 400

/-- spans lie one behind the other -/
theorem flat_app (a b : List (Int × Int)) : flat (a ++ b) = flat a ++ flat b := by
  induction a with
  | nil => rfl
  | cons p r ih => show p.1 :: p.2 :: flat (r ++ b) = _; rw [ih]; rfl
theorem upTo_sorted {ts : List Int} {ph T : Int} (h0 : ∀ x ∈ ts, 0 ≤ x) (hT : 0 < T) : ∀ k, (0 :: flat (spansUpTo ts ph T k)).Pairwise (· ≤ ·) ∧ ∀ x ∈ flat (spansUpTo ts ph T k), x ≤ max 0 (min (pos ts ph k) T) := by
  intro k
  induction k with
  | zero => exact ⟨List.pairwise_singleton _ _, fun _ h => nomatch h⟩
  | succ k ih =>
    have h1 := pos_step h0 ph k
    obtain ⟨i1, i2⟩ := ih
    rw [upTo_succ, flat_app]
    unfold oneTurn drawn
    by_cases e1 : pos ts ph k < T
    · rw [if_pos e1]
      by_cases e2 : k % 2 = 0 ∧ (0 < pos ts ph (k + 1) ∨ 0 ≤ pos ts ph k)
      · rw [if_pos e2]
        have e3 := e2.2
        clear e2
        generalize pos ts ph k = p at *
        generalize pos ts ph (k + 1) = q at *
        have hb : max p 0 ≤ min q T := by omega
        refine ⟨?_, fun x hx => ?_⟩
        · rw [← List.cons_append]
          refine List.pairwise_append.mpr ⟨i1, ?_, fun x hx y hy => ?_⟩
          · show [max p 0, min q T].Pairwise (· ≤ ·)
            exact List.pairwise_cons.mpr ⟨fun y hy => by rw [List.mem_singleton.mp hy]; exact hb, List.pairwise_singleton _ _⟩
          · have hx' : x ≤ max 0 (min p T) := by
              rcases List.mem_cons.mp hx with rfl | hx
              · omega
              · exact i2 x hx
            have hy' : max p 0 ≤ y := by
              rcases List.mem_cons.mp hy with rfl | hy
              · exact Int.le_refl _
              · rw [List.mem_singleton.mp hy]; exact hb
            omega
        · rcases List.mem_append.mp hx with hx | hx
          · have := i2 x hx; omega
          · rcases List.mem_cons.mp hx with rfl | hx
            · show max p 0 ≤ _; omega
            · rw [List.mem_singleton.mp hx]; show min q T ≤ _; omega
      · rw [if_neg e2]
        show (0 :: (flat _ ++ [])).Pairwise _ ∧ ∀ x ∈ flat _ ++ [], _
        rw [List.append_nil]
        exact ⟨i1, fun x hx => by have := i2 x hx; omega⟩
    · rw [if_neg e1]
      show (0 :: (flat _ ++ [])).Pairwise _ ∧ ∀ x ∈ flat _ ++ [], _
      rw [List.append_nil]
      exact ⟨i1, fun x hx => by have := i2 x hx; omega⟩
theorem law_sorted {ns : List Int} {ph T : Int} {a : List (Int × Int)} (ok : Okd ns ph T) (ha : IsS a ns ph T) : (0 :: flat a ++ [T]).Pairwise (· ≤ ·) := by
  rw [ha.eq]
  have h := upTo_sorted (ph := ph) ok.nn ok.t0 400
  have hT := ok.t0
  refine List.pairwise_append.mpr ⟨h.1, List.pairwise_singleton _ _, fun x hx y hy => ?_⟩
  rw [List.mem_singleton.mp hy]
  rcases List.mem_cons.mp hx with rfl | hx
  · omega
  · have := h.2 x hx; omega
theorem sorted_one {a b : List Int} (p : b.Perm a) (hb : b.Pairwise (· ≤ ·)) (ha : a.Pairwise (· ≤ ·)) : a = b :=
  (List.Perm.eq_of_pairwise (le := (· ≤ ·)) (fun _ _ _ _ h1 h2 => Int.le_antisymm h1 h2) hb ha p).symm

/-- there are few -/
theorem cell_len (ts : List Int) (ph T : Int) (k : Nat) : (oneTurn ts ph T k).length ≤ 1 := by
  unfold oneTurn drawn
  split
  · split
    · exact Nat.le_refl _
    · exact Nat.zero_le _
  · exact Nat.zero_le _
theorem cell_odd (ts : List Int) (ph T : Int) {k : Nat} (h : k % 2 = 1) : oneTurn ts ph T k = [] := by
  unfold oneTurn drawn
  rw [if_neg (c := k % 2 = 0 ∧ _) (fun h2 => by omega)]
  split <;> rfl
theorem cell_two (ts : List Int) (ph T : Int) (k : Nat) : (spansUpTo ts ph T (k + 2)).length ≤ (spansUpTo ts ph T k).length + 1 := by
  rw [upTo_succ, upTo_succ, List.length_append, List.length_append]
  have h1 := cell_len ts ph T k
  have h2 := cell_len ts ph T (k + 1)
  rcases Nat.mod_two_eq_zero_or_one k with h | h
  · rw [cell_odd ts ph T (k := k + 1) (by omega)]; simp only [List.length_nil]; omega
  · rw [cell_odd ts ph T h]; simp only [List.length_nil]; omega
theorem cell_twos (ts : List Int) (ph T : Int) (k : Nat) : ∀ d, (spansUpTo ts ph T (k + 2 * d)).length ≤ (spansUpTo ts ph T k).length + d := by
  intro d
  induction d with
  | zero => exact Nat.le_refl _
  | succ d ih =>
    have := cell_two ts ph T (k + 2 * d)
    rw [show k + 2 * (d + 1) = k + 2 * d + 2 by omega]
    omega
theorem upTo_more_len (ts : List Int) (ph T : Int) (k : Nat) : ∀ d, (spansUpTo ts ph T k).length ≤ (spansUpTo ts ph T (k + d)).length := by
  intro d
  induction d with
  | zero => exact Nat.le_refl _
  | succ d ih => rw [← Nat.add_assoc, upTo_succ, List.length_append]; omega
theorem first_turn {ts : List Int} {ph T : Int} (hr : ∀ x ∈ ts, 0 ≤ x ∧ x < 12) : ∀ k, spansUpTo ts ph T k = [] ∨ ∃ k0, -11 < pos ts ph k0 ∧ spansUpTo ts ph T k0 = [] := by
  intro k
  induction k with
  | zero => exact .inl rfl
  | succ k ih =>
    rcases ih with h | h
    · by_cases e : -11 < pos ts ph k
      · exact .inr ⟨k, e, h⟩
      · left
        rw [upTo_succ, h]
        have h1 : ts.getD (k % ts.length) 0 < 12 := by
          rw [List.getD_eq_getElem?_getD]
          cases h : ts[k % ts.length]? with
          | none => decide
          | some x => exact (hr x (List.mem_of_getElem? h)).2
        have h2 : pos ts ph (k + 1) = pos ts ph k + ts.getD (k % ts.length) 0 := rfl
        unfold oneTurn drawn
        rw [if_neg (c := k % 2 = 0 ∧ _) (fun h3 => by omega)]
        split <;> rfl
    · exact .inr h
theorem law_short {ns : List Int} {ph T : Int} {a : List (Int × Int)} (ok : Okd ns ph T) (ha : IsS a ns ph T) : a.length ≤ 28 := by
  rw [ha.eq]
  rcases first_turn (ph := ph) (T := T) ok.hr 400 with h | ⟨k0, h1, h2⟩
  · show (spansUpTo ns ph T 400).length ≤ 28
    rw [h]; exact Nat.zero_le _
  · have h3 := pos_turns ns ok.n0 ph k0 14
    have h4 := ok.hs
    have h5 := ok.t1
    have h6 := ok.n4
    have h7 : T ≤ pos ns ph (k0 + 14 * ns.length) := by rw [h3]; omega
    have h8 := cell_twos ns ph T k0 (7 * ns.length)
    rw [h2, show 2 * (7 * ns.length) = 14 * ns.length by omega] at h8
    have h9 := upTo_more_len ns ph T 400 (k0 + 14 * ns.length)
    rw [Nat.add_comm 400, upTo_more ok.nn h7] at h9
    simp only [List.length_nil] at h8
    show (spansUpTo ns ph T 400).length ≤ 28
    omega
end Mine
end

section
open PySem PySem.W PyProof.Rows PyProof.Rows.LCg
set_option maxRecDepth 100000
set_option maxHeartbeats 4000000
namespace Mine
section
theorem boxB_use {w : World} {p : Program} {loose : List Str} {mean : ExcName → Option Value} {mg mb : Str → Option Value} {news : Led} {l : Addr} {vs : List Value} {ns : List Int}
  {dp un : Nat} {gd : Option (List Code)} {cn : Str} {cs : Scope} {a : Addr} {ccd : Value} {cl : List (Str × Addr)} {outer : List Env} {A₀ : Around} {base h₀ : Heap} {L : Addr} {m : Str → Option Value} {s : Shared} {Q E : Value → Shared → Prop}
  (B : Below A₀ base outer h₀) (F : Fr h₀ L s.heap m) (X : (hd.heap_39 w.params).In h₀) (N : News h₀ L s.heap news) (T : Top p loose mean mg mb h₀) (hk : cs.kind = .function) (hd : dp + 4 < recursionLimit) (hu : un + 8 * 4 < cLine) (hl : base.IsList l vs.toArray)
  (hi : IntsAre vs ns) (hlen : ns.length ≤ 63) (hlay : (PyData.list (ns.map PyData.int)).layable0 = true)
  (hret : Ret h₀ L m news s Q (fun nx r => ∃ q c vs' nc ns', r = .ref q ∧ IsPool nx q c 0 ∧ (c, lstO vs' nc) ∈ nx ∧ c ≠ q ∧ IntsAre vs' ns' ∧ ns'.length ≤ 100)) :
    wpAny (model PySem.Challenge.rw_og0148_01.prog w) (ktrTop dp un gd cn cs L a ccd cl outer) (call (.ref 204) [.ref l]) Q E s := boxB hi hlen hlay _ _ _ _ _ _ _ _ _ _ _ _ _ _ _ _ _ B F X N T hk hd hu hl hret
local macro_rules | `(tactic| walk_at $s:str) => `(tactic| k_extra $s)
theorem words_C9_1 : True := by
  k_with_none
  (k_with "call ref" => (k_here; (with_reducible show wpAny _ _ (call (Value.ref 204) [Value.ref _]) _ _ _); refine Stop.out ?_))
  trivial
local macro_rules | `(tactic| k_mem) => `(tactic| first | exact List.mem_cons_self | (refine List.mem_cons_of_mem _ ?_; k_mem))
theorem words_C9_2 : True := by
  (k_with "storeName" => (k_here; (with_reducible show wpAny _ _ (storeName _ (Str.ofString "pool") _) _ _ _); refine Stop.out ?_))
  (k_with "eval Name" => (k_here; (with_reducible show wpAny _ _ (eval (PySem.Expr.Name (Str.ofString "pool") _) (compEnvC _ _ _ _)) _ _ _); k_dflt (refine' ldC_cell ?k1 ?k2 ?k3 ?k4 ?_ ?k5 ?k6; (case k5 => rfl); (case k6 => rfl); (case k1 => k_asm); (case k2 => rfl); (case k3 => k_mem); (case k4 => assumption); k_whole)))
  (k_with "M pool" => first | assumption | exact PoolInv.mono (by assumption) (by ktd_sub))
  (k_with "call ref" => (k_here; (with_reducible show wpAny _ _ (call (Value.ref 216) [_, _, _]) _ _ _); refine Stop.out ?_))
  (k_with "call ref" => (k_here; (with_reducible show wpAny _ _ (call (Value.ref 211) [Value.ref _, Value.int _ _]) _ _ _); k_dflt (refine' doesQ_use ?kB ?kF ?kX ?kN ?kT ?kK (drawP ?i1 ?i2 ?i3 ?i4) ?hd ?hu ?_; (case kB => k_asm); (case kF => k_asm); (case kX => k_asm); (case kN => k_asm); (case kT => k_asm); (case kK => first | exact rfl | assumption); (case i1 => k_extra "M pool"); (case i2 => omega); (case i3 => omega); (case i4 => omega); (case hd => ktr_room); (case hu => ktr_units); k_whole; intro _ _ _ _ _ _ _ P9; obtain ⟨_, _, rfl, _, _, _⟩ := P9; obtain ⟨_, _, _, _, _⟩ := id ‹PoolInv _ _ _ _ _ _ _ _ _›; (try dsimp only); (try k_fold))))
  (k_with "call builtin:list.append" => (k_here; (with_reducible show wpAny _ _ (call (Value.builtin "list.append") [Value.ref _, _]) _ _ _); k_dflt (refine' append_led ?k1 ?k2 ?k3 ?k4 ?_; (case k1 => k_asm); (case k2 => k_asm); (case k3 => k_mem); (case k4 => assumption); k_whole; intro _ _ _ _ _ _ _; (try dsimp only))))
  (k_with "exec Assign cons ListComp" => (k_here; (with_reducible show wpAny _ _ (exec (Stmt.Assign _ (PySem.Expr.ListComp _ [⟨PySem.Expr.Tuple _ _ _, _, [_], _⟩] _ _) _) _) _ _ _); k_dflt (refine Assign_F (by k_asm) (by rfl) (by with_unfolding_all rfl) (by with_unfolding_all rfl) (by decide) (by rfl) (by decide) (by rfl) (by rfl) (by decide) (by decide) (by decide) (by rfl) (by rfl) ?_)))
  (k_with "eval ListComp" => (k_here; (with_reducible show wpAny _ _ (eval (PySem.Expr.ListComp _ [⟨PySem.Expr.Tuple _ _ _, _, [_], _⟩] _ _) _) _ _ _); k_dflt (refine ListComp_F (by k_asm) (by with_unfolding_all rfl) (by decide) (by rfl) (by decide) (by rfl) (by rfl) (by decide) (by decide) (by decide) ?_)))
  (k_with "exec Assign cons ListComp" => (k_here; (with_reducible show wpAny _ _ (exec (Stmt.Assign _ (PySem.Expr.ListComp _ [⟨PySem.Expr.Name _ _, _, [], _⟩] _ _) _) _) _ _ _); k_dflt (refine LCg.Assign_ListComp_U (F₀ := by k_asm) (by rfl) (by with_unfolding_all rfl) (by with_unfolding_all rfl) (by decide) (by rfl) (by decide) (by rfl) (by rfl) (by rfl) ?_)))
  (k_with "exec For" => (k_here; (rename Fr _ _ _ _ => lF'); (with_unfolding_all refine' For_turns lF' ?_); k_whole))
  (k_with "exec For Tuple Call cons nil" => (k_here; (rename Fr _ _ _ _ => lF'); (with_unfolding_all refine' For_turns lF' ?_); k_whole))
  (k_with "compareOp NotEq ref ref" => (k_here; (with_reducible show wpAny _ _ (compareOp CmpOp.NotEq (Value.ref _) (Value.ref _)) _ _ _); refine Stop.out ?_))
  (k_with "call builtin:sum" => (k_here; (with_reducible show wpAny _ _ (call (Value.builtin "sum") [Value.ref _]) _ _ _); k_dflt (refine' sum_led ?k0 ?k1 ?k2 ?k3 ?k4 ?_; (case k0 => rfl); (case k1 => k_asm); (case k2 => k_asm); (case k3 => first | assumption | k_mem); (case k4 => assumption); k_whole; intro _ _ _ _ _; (try dsimp only); (try k_fold))))
  (k_with "call builtin:len" => (k_here; (with_reducible show wpAny _ _ (call (Value.builtin "len") [Value.ref _]) _ _ _); k_dflt (refine' len_led ?k1 ?k2 ?k3 ?k4 ?_; (case k1 => k_asm); (case k2 => first | assumption | k_mem); (case k3 => assumption); (case k4 => omega); k_whole; (try dsimp only); (try k_fold))))
  (k_with "compareOp Eq ref ref" => (k_here; (with_reducible show wpAny _ _ (compareOp CmpOp.Eq (Value.ref _) (Value.ref _)) _ _ _); refine Stop.out ?_))
  (k_with "CompSrc" => (k_here; k_dflt (refine LCg.CompSrc.range (by rfl) (by k_asm) (by k_asm) (by assumption) (small_one (by omega) (by omega) (by omega) (by omega)) (rangeSize_nat _ _) (by (rw [sizeLine_eq]; omega)) ?_; intro _; refine Stop.out ?_)))
  (k_with "exec If" => (k_here; (with_reducible show wpAny _ _ (exec (Stmt.If _ [Stmt.Assign [PySem.Expr.Subscript _ _ _] _ _] [] _) _) _ _ _); (fail_if_success (with_reducible show wpAny _ _ _ (MidS _ _ _ _ _ _ _ _ _ _ _ _ _) _ _)); refine Stop.out ?_))
  (k_with "setItem ref int" => (k_here; (with_reducible show wpAny _ _ (setItem (Value.ref _) (Value.int _ _) _) _ _ _); k_dflt (refine' store_led ?k1 ?k2 ?k3 ?k4 ?k5 ?k6 ?k7 ?_; (case k1 => k_asm); (case k2 => k_asm); (case k3 => k_mem); (case k4 => decide); (case k5 => omega); (case k6 => decide); (case k7 => exact rfl); k_whole; intro _ _ _ _ _ _; (try dsimp only); (try k_fold))))
  trivial
theorem dbl_ok {ns : List Int} (h : ∀ x ∈ ns, 0 ≤ x ∧ x < 12) (hs : 3 ≤ ns.sum) : (∀ x ∈ ns ++ ns, 0 ≤ x) ∧ 3 ≤ (ns ++ ns).sum := by
  refine ⟨fun x hx => ?_, ?_⟩
  · rcases List.mem_append.mp hx with hx | hx
    · exact (h x hx).1
    · exact (h x hx).1
  · rw [List.sum_append]; omega
theorem go : PySem.Challenge.rw_og0148_01.Holds := hd (by
  lgec_go0
  (all_goals try k_fold)
  k_steps
  refine Stop.mk ?_
  k_dflt (refine' boxB_use ?kB ?kF ?kX ?kN ?kT ?kK ?hd ?hu ?hl ?hi ?hlen ?hlay ?_)
  (case kB => k_asm); (case kF => k_asm); (case kX => k_asm); (case kN => k_asm); (case kT => k_asm); (case kK => first | exact rfl | assumption); (case hd => ktr_room); (case hu => ktr_units)
  (case hl => assumption); (case hi => assumption)
  (case hlay => assumption)
  (case hlen => omega)
  rintro r tl h1 tk1 F1 N1 ap ⟨q, c, vsc, nc, nsc, rfl, hq, hc, hqc, hic, hlc⟩
  dsimp only
  k_steps
  refine Stop.mk ?_
  k_dflt (refine' storeC_led F1 N1 ?k1 ?k2 ?k3 ?_ ?k4 ?k5)
  (case k1 => rfl); (case k4 => rfl); (case k5 => rfl)
  (case k2 => exact List.mem_append.mpr (.inr (.head _)))
  (case k3 => assumption)
  intro nx2 h2 oc F2 N2 hm2 hd2 hk2
  have P2 := PoolInv.make N1 (List.mem_append.mpr (.inr (.head _))) (by assumption) hq hc hqc hic hlc hm2 hd2 hk2
  clear F1 N1 hq hc hk2
  k_steps
  refine Stop.mk ?_
  rename_i nx3 h3 tk3 F3 N3 k3 v3 t3 lo3 hi3 p3 _ _ hm3 hd3 _ h4 tk4 t4 u4 w4 r4 F4 N4 kp4 g4
  clear P2 hm2 hd2 hm3 k3 F2 N2
  refine comp_ind (fun i ys nx => ∃ ns, IntsAre ys ns ∧ ns.length = i ∧ (∀ x ∈ ns, 0 ≤ x ∧ x < 12) ∧ PoolInv nx _ oc q c vsc nc nsc (1 + (i : Int))) ?_ ?_ trivial ⟨[], .nil, rfl, by simp, by simpa using p3⟩
  · rintro ys nx ⟨ns, hy, hn, hr, hp⟩
    clear F4 N4 F3 N3 r4 p3 kp4
    have hyl := hy.length
    obtain ⟨_, _, hm4, hd4, _⟩ := id hp
    k_steps
    refine Stop.mk ?_
    rename_i D h5 tk5 F5 N5 o5
    have hDq := pool_ne hp o5
    have hn0 : 0 < ns.length := by omega
    refine cutS F5 hp hn ?_ ?_
    · k_steps
      · rename_i nx9 h9 F9 N9 hf9 hk9
        exact MidS.mk (by k_asm) (by k_asm) hf9 (ints_set hy 0) (by simp [hn]) (set3 hn0 hr).1 (set3 hn0 hr).2 (hp.set o5 hk9) hDq
      · exact MidS.mk (by k_asm) (by k_asm) (.head _) hy hn hr (by omega) (hp.mono fun _ h => .tail _ h) hDq
    · intro h6 tk6 nx6 D6 ys6 n6 ns6 F6 N6 hD6 hy6 hn6 hr6 hs6 hp6 hDq6
      clear hDq hn0 hyl hp hr hn hy F5 N5 o5 hm4 hd4
      obtain ⟨_, _, hm6, hd6, _⟩ := id hp6
      have hl6 := hy6.length
      k_steps
      refine Stop.mk ?_
      rename_i nxa ha tka ka pha ta loa hia pa _ _ _ _ _ _ _ nxb hb tkb kb lenb tb lob hib pb _ _ _ _ _ D2 h2a l2 h2b h2c h2 F2 N2
      have hDa := kept1 hD6 hDq6 ka
      have hDb := kept1 hDa hDq6 kb
      have hok : Okd ns6 pha (1 + lenb) := ⟨by omega, by omega, hr6, hs6, by omega, by omega, by omega, by omega⟩
      clear hp6 pa pb ka kb
      k_dflt (refine' does_use ?kB ?kF ?kX ?kN ?kT ?kK (lawS (.tail _ hDb) hy6 ?l1 ?l2 ?l3 ?l4 ?l5 ?l6 ?l7) ?hd ?hu ?_)
      (case kB => k_asm); (case kF => k_asm); (case kX => k_asm); (case kN => k_asm); (case kT => k_asm); (case kK => first | exact rfl | assumption); (case hd => ktr_room); (case hu => ktr_units)
      (case l1 => omega); (case l2 => omega); (case l3 => exact fun x hx => (hr6 x hx).1); (case l4 => assumption); (case l5 => omega); (case l6 => omega); (case l7 => omega)
      rintro r9 tl9 h9 tk9 F9 N9 l9 ⟨f, vsf, nf, SA, rfl, hf, hA, hSA⟩
      dsimp only
      clear F2 N2 l2 l9
      obtain ⟨b9, hb9⟩ := ledOfT hA
      have hD9 : (D6, lstO ys6 n6) ∈ b9 := hb9 ▸ List.mem_append.mpr (.inr (List.Mem.tail _ hDb))
      rw [← hb9] at N9 hf hA
      clear hb9 hDb
      k_steps
      refine Stop.mk ?_
      rename_i h3a tk3 du h3b l3 h3c N3
      k_dflt (refine' does_use ?kB ?kF ?kX ?kN ?kT ?kK (lawS (n := n6) (vs := ys6) (ns := ns6) ?l0 hy6 ?l1 ?l2 ?l3 ?l4 ?l5 ?l6 ?l7) ?hd ?hu ?_)
      (case kB => k_asm); (case kF => k_asm); (case kX => k_asm); (case kN => k_asm); (case kT => k_asm); (case kK => first | exact rfl | assumption); (case hd => ktr_room); (case hu => ktr_units)
      (case l0 => exact .tail _ hD9); (case l1 => omega); (case l2 => omega); (case l3 => exact fun x hx => (hr6 x hx).1); (case l4 => assumption); (case l5 => omega); (case l6 => omega); (case l7 => omega)
      rintro r8 tl8 h8 tk8 F8 N8 l8 ⟨g, vsg, ng, SB, rfl, hg, hB, hSB⟩
      dsimp only
      clear lF' N3
      k_steps
      refine for_list (LInv g du f D6 pha (1 + lenb) ta tkb SB (tl8 ++ b9)) rfl F8 N8 hg ?_ ?_ ?_
      · exact LInv.start N8 hg rfl rfl rfl rfl rfl hB hSB.len l8 l3
      · rintro m nx h tk ⟨_, rest, acc, items, n, hT, m1, m2, m3, m4, m5, i2, i3, i4, i5, i6, i7⟩ F N
        cases hT
        rw [map5 m1 m2 m3 m4 m5] at F
        clear F8 N8
        have ea : acc = SA := by
          rw [← law_a hok hSA hSB, ← i4]; exact (List.append_nil _).symm
        subst ea
        clear i4
        have hf3 := i7 _ (List.mem_append.mpr (.inr hf))
        have hD3 := i7 _ (List.mem_append.mpr (.inr hD9))
        have hA3 := hA.mono fun p hp => i7 p (List.mem_append.mpr (.inr hp))
        k_steps
        refine Stop.mk ?_
        k_dflt (refine ne_same (by k_asm) hf3 i2 hA3 i3 (by ke_room) ?_)
        clear i2 i3 i7
        k_steps
        refine Stop.mk ?_
        have hW := whole_ok hok
        k_dflt (refine' does_use ?kB ?kF ?kX ?kN ?kT ?kK (lawS (n := n6) (vs := ys6) (ns := ns6) hD3 hy6 ?l1 ?l2 ?l3 ?l4 ?l5 ?l6 ?l7) ?hd ?hu ?_)
        (case kB => k_asm); (case kF => k_asm); (case kX => k_asm); (case kN => k_asm); (case kT => k_asm); (case kK => first | exact rfl | assumption); (case hd => ktr_room); (case hu => ktr_units)
        (case l1 => omega); (case l2 => omega); (case l3 => exact fun x hx => (hr6 x hx).1); (case l4 => assumption); (case l5 => omega); (case l6 => omega); (case l7 => omega)
        rintro r7 tl7 h7 tk7 F7 N7 l7 ⟨f7, vs7, n7, S7, rfl, hf7, hA7, hS7⟩
        dsimp only
        refine SrcF.mk rfl (by k_asm) (by k_asm) hf7 hA7 (hA7.length ▸ Nat.le_trans hS7.len (by decide)) fun D8 h8 tk8 ys8 nx8 F8 N8 hD8 hn8 hs8 hY8 => ?_
        have hf8 := hs8 _ (List.mem_append.mpr (.inr hf3))
        have hD8' := hs8 _ (List.mem_append.mpr (.inr hD3))
        have hA8 := hA3.mono fun p hp => hs8 p (List.mem_append.mpr (.inr hp))
        dsimp only
        clear F7 N7 F N hf7 hA7
        k_steps
        refine SrcF.mk rfl (by k_asm) (by k_asm) hf8 hA8 (hA8.length ▸ Nat.le_trans hSA.len (by decide)) fun D9 h9 tk9 ys9 nx9 F9 N9 hE9 hn9 hs9 hY9 => ?_
        have hL9 := hs9 _ hD8
        have hf9 := hs9 _ hf8
        have hS9 := hs9 _ hD8'
        have hA9 := hA8.mono hs9
        have hY10 := hY8.mono hs9
        rw [law_b hok hSA hS7] at hY10
        dsimp only
        clear F8 N8 hD8 hf8 hD8' hA8 hY8
        k_steps
        refine Stop.mk ?_
        k_dflt (refine ne_same (by k_asm) hL9 hE9 hY10 hY9 (by ke_room) ?_)
        clear hL9 hE9 hY10 hY9
        k_steps
        refine Stop.mk ?_
        rename_i DD wsd hd1 FD ND lD hID
        have h2 := dbl_ok hr6 hs6
        k_dflt (refine' does_use ?kB ?kF ?kX ?kN ?kT ?kK (lawS (n := 0) (vs := wsd) (ns := ns6 ++ ns6) List.mem_cons_self hID ?l1 ?l2 ?l3 ?l4 ?l5 ?l6 ?l7) ?hd ?hu ?_)
        (case kB => k_asm); (case kF => k_asm); (case kX => k_asm); (case kN => k_asm); (case kT => k_asm); (case kK => first | exact rfl | assumption); (case hd => ktr_room); (case hu => ktr_units)
        (case l1 => rw [List.length_append]; omega); (case l2 => rw [List.length_append]; omega); (case l3 => exact h2.1); (case l4 => exact h2.2); (case l5 => omega); (case l6 => omega); (case l7 => omega)
        rintro r5 tl5 h5 tk5 F5 N5 l5 ⟨f5, vs5, n5, S5, rfl, hf5, hA5, hS5⟩
        rw [law_c hSA hS5] at hA5
        obtain ⟨LB, hLB⟩ := ledOfT hA5
        have hs5 : ∀ p ∈ nx9, p ∈ LB := by rw [hLB]; intro p hp; exact List.mem_append.mpr (.inr (.tail _ hp))
        rw [← hLB] at N5 hf5 hA5
        have hf6 := hs5 _ hf9
        have hA6 := hA9.mono hs5
        dsimp only
        clear FD ND hLB l5 lD
        k_steps
        refine Stop.mk ?_
        k_dflt (refine ne_same (by k_asm) hf5 hf6 hA5 hA6 (by ke_room) ?_)
        clear hf5 hA5 hS9 hf9 hA9 hf3 hD3 hA3
        k_steps
        rename Fr _ _ _ _ => FE
        rename News _ _ _ _ => NE
        refine for_list (EInv (1 + lenb) tkb acc) rfl FE NE (.tail _ hf6) ?_ ?_ ?_
        · exact ⟨_, [], _, _, _, _, hA6.mono fun _ h => .tail _ h, rfl, rfl, .head _, .cons _ _ .nil, rfl, rfl⟩
        · rintro m nx h tk ⟨rest, done, items, n, en, nsE, hT, m1, m2, hE, hIE, hNE, hDE⟩ F N
          cases hT
          rw [map2 m1 m2] at F
          clear FE NE
          have hEl := EInv.len hNE hDE hSA.len
          have hdo : done = acc := by rw [← hDE]; exact (List.append_nil _).symm
          subst hdo
          clear hDE
          have hsh := law_short hok hSA
          have hso := law_sorted hok hSA
          k_steps
          rename_i la _ _ Da wsa _ hIa _ lb _ _ Db wsb hb3 FB NB hIb lB3
          k_dflt (refine kso_sorted (vs := wsb) (ns := nsE ++ [1 + lenb]) (by k_asm) (by k_asm) ⟨_, NB.get (.head _), rfl, _, rfl⟩ hIb ?_ fun Dc wsc nsc cc hc FC NC lC hIc lnc pc wc _ => ?_)
          · rw [hNE, List.length_append, List.length_cons, flat_len]; simp only [List.length_cons, List.length_nil]; omega
          dsimp only
          clear FB NB
          k_steps
          refine Stop.mk ?_
          have hEQ : nsE ++ [1 + lenb] = nsc := sorted_one pc wc (by rw [hNE]; exact hso)
          k_dflt (refine ke_eq_ints (xs := wsa) (ys := wsc) (ns := nsE ++ [1 + lenb]) (ms := nsc) ⟨_, NC.get (.tail _ (.tail _ (.tail _ (.head _)))), rfl, _, rfl⟩ ⟨_, NC.get (.head _), rfl, _, rfl⟩ hIa hIc (by ke_room) ?_)
          rw [decide_eq_true hEQ]
          k_steps
          wrow_closeG
        · rintro I v vs' m nx h tk o ⟨rest, done, items, n, en, nsE, hT, m1, m2, hE, hIE, hNE, hDE⟩ hoff hkD F N
          cases hT with
          | @cons x b e t1 t2 n1 _ rest hx hT =>
            rw [map2 m1 m2] at F
            clear FE NE
            have hEl := EInv.len hNE hDE hSA.len
            k_steps
            rename_i lE hE1 l1E DE wsE hE2 hIE2 l2E hE3 FE3 NE3
            exact turn_endF (by k_asm) (by k_asm) (.tail _ (.tail _ (.head _))) (.tail _ (.tail _ (.tail _ hkD))) (hoff _ hkD) ⟨rest, done ++ [(b, e)], _, _, _, _, hT.mono fun p hp => mem_offI (.tail _ (.tail _ (.tail _ hp))) (hoff p hp), rfl, rfl, mem_offI (.head _) (Nat.ne_of_gt l2E.2.1), hIE2, by rw [hNE, flat_snoc]; rfl, by rw [List.append_assoc]; exact hDE⟩
      · rintro I v vs' m nx h tk o ⟨i0, rest, acc, items, n, hT, m1, m2, m3, m4, m5, i2, i3, i4, i5, i6, i7⟩ hoff hkD F N
        cases hT with
        | @cons x b e t1 t2 n1 _ rest hx hT =>
          rw [map5 m1 m2 m3 m4 m5] at F
          clear F8 N8
          have hil := i3.length
          have hil2 : items.length ≤ 100000 := by omega
          have hgd : g ≠ du := fun e => nomatch i0 e
          have hd := hoff _ i2
          (k_with "isTrue BoolOp" => (k_here; (with_reducible show wpAny _ _ (isTrue (PySem.Expr.BoolOp PySem.BoolOp.Or _ _) _ _) _ _ _); (fail_if_success (with_reducible show wpAny _ _ _ (MidB _ _) _ _)); refine Stop.out ?_))
          k_steps
          refine Stop.mk ?_
          refine cutB (pha < e ∨ pha ≤ b) ?_ ?_ ?_
          · k_steps
            · exact MidB.yes (.inl (by assumption))
            · exact MidB.yes (.inr (by assumption))
            · exact MidB.no fun h => h.elim (by assumption) (by assumption)
          · intro tk8 hC
            k_steps
            rename_i D9 _ _ _ l1 nx9 h9 n9 F9 N9 hf9 hk9
            exact turn_endF (by k_asm) (by k_asm) (hk9 _ (.tail _ (.head _)) (.inl hd.symm)) (hk9 _ (.tail _ (.tail _ hkD)) (.inl hgd)) (hoff _ hkD) (LInv.push hgd rfl rfl rfl rfl rfl hk9 (Nat.ne_of_gt l1.1) hoff hd hf9 hT i3 i4 (by simpa using i5) i6 i7 hC)
          · intro tk8 hC
            k_steps
            exact turn_end (by k_asm) (by k_asm) (.head _) nx (fun p hp => .tail _ hp) hoff hkD (LInv.pass hgd rfl rfl rfl rfl rfl i2 hT i3 i4 (by simpa using i5) i6 i7 hC)
  · rintro i v ys nx I oI C oC D m₂ h tk E' hi' ⟨t, rfl⟩ ⟨ns, hy, hn, hr, hp⟩ hS hC hx F N o ne
    obtain ⟨_, _, hm4, hd4, _⟩ := id hp
    have hi5 : i < 4 := by omega
    k_steps
    refine comp_endP (by k_asm) (by k_asm) o hp (by assumption) (by assumption) fun nx' hp' => ⟨ns ++ [_], hy.append (.cons _ _ .nil), by simp [hn], ?_, by simpa [Int.add_assoc] using hp'⟩
    intro x hx
    rcases List.mem_append.mp hx with hx | hx
    · exact hr x hx
    · rw [List.mem_singleton.mp hx]; exact ⟨by assumption, by assumption⟩)
end
end Mine
end

theorem PySem.Challenge.cw_og0148_01_holds : PySem.Challenge.rw_og0148_01.Holds :=
  Mine.go
