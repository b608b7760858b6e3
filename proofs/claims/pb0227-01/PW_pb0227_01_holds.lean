import PyProof.Rows.All
import Wide.All
import OpenK.AllK
import Wide.FinOn
import PySem.Challenge.RW_pb0227_01
open PySem PySem.W PyProof.Rows
set_option Elab.async false
set_option maxRecDepth 100000
set_option maxHeartbeats 16000000
set_option compiler.extract_closed false
set_option genSizeOf false
namespace Mine
open PySem PySem.W PyProof.Rows
set_option maxRecDepth 100000 in
set_option maxHeartbeats 8000000 in
open_top hd for PySem.Challenge.rw_pb0227_01
local macro_rules | `(tactic| k_all) => `(tactic| assumption)
local macro_rules | `(tactic| k_mem) => `(tactic| assumption)
local macro_rules | `(tactic| k_ne) => `(tactic| first | assumption | exact Ne.symm (by assumption))
local macro_rules | `(tactic| k_room) => `(tactic| ktr_room)
local macro_rules | `(tactic| k_units) => `(tactic| ktr_units)
local macro_rules | `(tactic| ke_room) => `(tactic| ktr_units)
section
open PySem PySem.W PyProof.Rows
noncomputable abbrev PR : Program := (OpenRow.toRowW (OpenLaw.row PySem.Challenge.rw_pb0227_01)).prog
noncomputable abbrev Led := List (Addr × Obj)

noncomputable def Tells (w : World) (p : Program) (loose : List Str) (mean : ExcName → Option Value) (mg mb : Str → Option Value) (f : Addr) (vs : List Value) (news : Led) (dd uu : Nat) (Ret : Value → Led → Prop) : Prop :=
  ∀ (dp un : Nat) (gd : Option (List Code)) (cn : Str) (cs : Scope) (a : Addr) (ccd : Value) (cl : List (Str × Addr)) (outer : List Env) (A₀ : Around) (base h₀ : Heap) (L : Addr) (m : Str → Option Value) (s : Shared) (Q E : Value → Shared → Prop),
    Below A₀ base outer h₀ → Fr h₀ L s.heap m → (hd.heap_39 w.params).In h₀ → News h₀ L s.heap news → Top p loose mean mg mb h₀ → cs.kind = .function →
    dp + dd < recursionLimit → un + uu < cLine →
    (∀ r h' tk' news', Fr h₀ L h' m → News h₀ L h' news' → Ret r news' → Q r { s with heap := h', toks := tk' }) →
    wpAny (model PR w) (ktrTop dp un gd cn cs L a ccd cl outer) (call (.ref f) vs) Q E s

noncomputable abbrev iTup (vs : List Value) : Obj := { cls := .type "tuple", data := .seq vs.toArray }
end
section
open PySem PySem.W PyProof.Rows
theorem off2 : True := by
  w_top off
  trivial
theorem fill (_ : PySem.Challenge.rw_pb0227_01 = PySem.Challenge.rw_pb0227_01) (_ : hd.heap_39 = hd.heap_39) : PySem.Challenge.rw_pb0227_01 = PySem.Challenge.rw_pb0227_01 ∧ hd.heap_39 = hd.heap_39 := by
  k_fill
  exact ⟨rfl, rfl⟩

theorem ints_tail {vs : List Value} {ns : List Int} (h : IntsAre vs ns) : IntsAre vs.tail ns.tail := by
  cases h with
  | nil => exact .nil
  | cons _ _ h => exact h

theorem pop_front {prog : Program} {w : World} {A : Around} {E : Value → Shared → Prop} {s : Shared} {h₀ : Heap} {L D : Addr} {m : Str → Option Value} {news news' : Led} {n : Nat} {vs : List Value} {ns : List Int} {u : Tok} {Q : Value → Shared → Prop}
    (F : Fr h₀ L s.heap m) (N : News h₀ L s.heap news) (hi : IntsAre vs ns) (hne : ns.length ≠ 0) (hz : ns.length ≤ sizeLine) (U : Upd D (listOf vs.toArray n) (listOf vs.tail.toArray (n + 1)) news news')
    (h : ∀ v h', Fr h₀ L h' m → News h₀ L h' news' → IntsAre vs.tail ns.tail → Q v { s with heap := h' }) : wpAny (model prog w) A (call (.builtin "list.pop") [.ref D, .int 0 u]) Q E s := by
  cases hi with
  | nil => exact absurd rfl hne
  | @cons i t vs' ns' hi =>
    refine kl_popAt (k := 0) (p := []) (y := Value.int i t) (q := vs') F N rfl ?_ rfl U ?_ fun h' F' N' => h _ h' F' N' hi
    · simp [seqIndex?]
    · simpa [hi.length] using hz
noncomputable def Halt0 (P : Prop) : Prop := P
theorem halt0 {P : Prop} (h : Halt0 P) : P := h
local macro_rules | `(tactic| walk_at "call builtin:list.pop") => `(tactic| (k_here; refine halt0 ?_))

theorem take_tells {w : World} {p : Program} {loose : List Str} {mean : ExcName → Option Value} {mg mb : Str → Option Value}
   (P : Addr) (vs : List Value) (ns : List Int) (n : Nat) (k : Int) (t : Tok) (news : Led) (hI : IntsAre vs ns) (hlen : ns.length ≤ 24) (hk : 0 < k) (hk2 : k ≤ 20001) (hP : ∀ p ∈ news, p.1 ≠ P) :
   Tells w p loose mean mg mb 148 [.ref P, .int k t] ((P, listOf vs.toArray n) :: news) 1 8 (fun r news' => ∃ d t' vs' ns' n', r = .int d t' ∧ 0 ≤ d ∧ d < k ∧ news' = (P, listOf vs'.toArray n') :: news ∧ IntsAre vs' ns' ∧ ns'.length ≤ 24) := by
  unfold Tells
  intro dp un gd cn cs a ccd cl outer A₀ base h₀ L m s Q E B F X N T hcs hdp hun hret
  have hmod : ∀ a : Int, 0 ≤ a.fmod k ∧ a.fmod k < k := fun a => by
    rw [Int.fmod_eq_emod_of_nonneg _ (Int.le_of_lt hk)]
    exact ⟨Int.emod_nonneg _ (Int.ne_of_gt hk), Int.emod_lt_of_pos _ hk⟩
  refine wpAny_call ?_
  k_dflt cell_enter
  k_steps
  · exact hret _ _ _ _ (by assumption) (by assumption) ⟨_, _, _, _, _, rfl, by omega, by omega, rfl, hI, by omega⟩
  · unfold Halt0
    k_dflt (refine' pop_front ?F ?N ?i ?l ?z ?U ?_)
    case F => k_asm
    case N => k_asm
    case U => first | k_upd | fail "x"
    case i => first | with_reducible assumption | fail "x"
    case l => omega
    case z => first | (rw [PySem.sizeLine_eq]; omega) | fail "x"
    intro v' h' F' N' hI'; (try dsimp only [List.nil_append, List.cons_append] at N')
    k_steps
    refine hret _ _ _ _ (by assumption) (by assumption) ⟨_, _, _, _, _, rfl, (hmod _).1, (hmod _).2, rfl, by assumption, ?_⟩
    rw [List.length_tail]; omega
  · refine hret _ _ _ _ (by assumption) (by assumption) ⟨_, _, _, _, _, rfl, (hmod _).1, (hmod _).2, rfl, by assumption, ?_⟩
    omega
end
section
open PySem PySem.W PyProof.Rows
theorem off3 : True := by
  w_top off
  trivial
theorem fill2 (_ : PySem.Challenge.rw_pb0227_01 = PySem.Challenge.rw_pb0227_01) (_ : hd.heap_39 = hd.heap_39) : PySem.Challenge.rw_pb0227_01 = PySem.Challenge.rw_pb0227_01 ∧ hd.heap_39 = hd.heap_39 := by
  k_fill
  exact ⟨rfl, rfl⟩

noncomputable def normD : Int → Nat → Int × Nat
  | u, 0 => (u, 0)
  | u, n + 1 => if u.fmod 10 = 0 then normD (u.fdiv 10) n else (u, n + 1)

theorem normD_step {a b : Int} (h : 0 < b) (h0 : a.fmod 10 = 0) : normD a b.toNat = normD (a.fdiv 10) (b - 1).toNat := by
  have e : b.toNat = (b - 1).toNat + 1 := by omega
  rw [e, normD, if_pos h0]
theorem normD_stop {a b : Int} (hb : 0 ≤ b) (h : b = 0 ∨ a.fmod 10 ≠ 0) : normD a b.toNat = (a, b.toNat) := by
  rcases h with rfl | h
  · rfl
  · cases hq : b.toNat with
    | zero => rfl
    | succ n => rw [normD, if_neg h]
theorem normD_word {u sc a b : Int} (h : normD u sc.toNat = normD a b.toNat) (hb : 0 ≤ b) (h1 : 0 < b) (h0 : a.fmod 10 = 0) : normD u sc.toNat = normD (a.fdiv 10) (b - 1).toNat ∧ 0 ≤ b - 1 :=
  ⟨h.trans (normD_step h1 h0), by omega⟩
theorem normD_end {u sc a b : Int} (h : normD u sc.toNat = normD a b.toNat) (hb : 0 ≤ b) (hs : b = 0 ∨ a.fmod 10 ≠ 0) : (normD u sc.toNat).1 = a ∧ ((normD u sc.toNat).2 : Int) = b := by
  rw [h, normD_stop hb hs]
  exact ⟨rfl, by simp only; omega⟩

theorem dec_tells {w : World} {p : Program} {loose : List Str} {mean : ExcName → Option Value} {mg mb : Str → Option Value}
   (u sc : Int) (tu ts : Tok) (news : Led) (hsc : 0 ≤ sc) :
   Tells w p loose mean mg mb 70 [.int u tu, .int sc ts] news 1 8 (fun r news' => ∃ a tk1 tk2, r = .ref a ∧ news' = (a, iTup [.int (normD u sc.toNat).1 tk1, .int (normD u sc.toNat).2 tk2]) :: news ∧ ∀ p ∈ news, p.1 < a) := by
  unfold Tells
  intro dp un gd cn cs a ccd cl outer A₀ base h₀ L m s Q E B F X N T hcs hdp hun hret
  refine wpAny_call ?_
  k_dflt (refine' code_def ?k1 ?k2 ?k3 ?k4 ?k5 ?kA ?kF ?kK ?k6 ?k7 ?k8 ?k9 ?kB ?_ ?c2 ?c3 ?c4 ?c5; (case kA => exact rfl); (case kF => exact rfl); (case kK => assumption); (case k1 => k_asm); (case k2 => k_asm); (case k3 => k_asm); (case k4 => k_asm); (case k5 => k_asm); (case k6 => k_is); (case k7 => k_is); (case k8 => ktr_room); (case k9 => exact binds_K (by k_in) rfl (by k_is) rfl rfl rfl); (case c5 => decide); (case kB => exact locs rfl); (case c2 => exact rfl); (case c3 => exact rfl); (case c4 => exact rfl); k_whole; intro g' L' h' FG' F' N' B' X' T'; (try dsimp only); (try k_fold))
  k_with "exec While BoolOp" => k_while_given ["units!", "scale!"] (fun u0 s0 (_ : List Int) a b => normD u0 s0.toNat = normD a b.toNat ∧ 0 ≤ b) (fun u0 s0 (_ : List Int) a b => b.toNat) "units" "scale"
  k_with "state" => exact normD_word (by assumption) (by assumption) (by assumption) (by assumption)
  k_steps
  · obtain ⟨e1, e2⟩ := normD_end (u := u) (sc := sc) (by assumption) (by assumption) (.inr (by assumption))
    exact hret _ _ _ _ (by assumption) (by assumption) ⟨_, _, _, rfl, by rw [e1, e2], by assumption⟩
  · rename_i ha0 _ _ _ _ _ _
    obtain ⟨e1, e2⟩ := normD_end (u := u) (sc := sc) (by assumption) (by assumption) (.inl (by omega))
    exact hret _ _ _ _ (by assumption) (by assumption) ⟨_, _, _, rfl, by rw [e1, e2], by assumption⟩
end
section
open PySem PySem.W PyProof.Rows
theorem off4 : True := by
  w_top off
  trivial
theorem fill3 (_ : PySem.Challenge.rw_pb0227_01 = PySem.Challenge.rw_pb0227_01) (_ : hd.heap_39 = hd.heap_39) : PySem.Challenge.rw_pb0227_01 = PySem.Challenge.rw_pb0227_01 ∧ hd.heap_39 = hd.heap_39 := by
  k_fill
  exact ⟨rfl, rfl⟩

noncomputable def p10 (e : Int) : Int := 10 ^ e.toNat
theorem pow10 {prog : Program} {w : World} {A : Around} {E : Value → Shared → Prop} {s : Shared} {Q : Value → Shared → Prop} {e : Int} {t u : Tok} (h0 : 0 ≤ e) (h1 : e ≤ 1000) (h : Q (.int (p10 e) s.toks) { s with toks := s.toks + 1 }) :
    wpAny (model prog w) A (binaryOp .Pow (.int 10 t) (.int e u)) Q E s :=
  pow_int_small h0 (by omega) (by decide) h
theorem p10_pos (e : Int) : 0 < p10 e := Int.pow_pos (by decide)
theorem p10_le {a b : Int} (h : a ≤ b) : p10 a ≤ p10 b := by
  have e : b.toNat = a.toNat + (b.toNat - a.toNat) := by omega
  unfold p10
  rw [e, Int.pow_add]
  have h1 : (0 : Int) < 10 ^ a.toNat := Int.pow_pos (by decide)
  have h2 : (0 : Int) < 10 ^ (b.toNat - a.toNat) := Int.pow_pos (by decide)
  have h3 := Int.mul_le_mul_of_nonneg_left (Int.add_one_le_of_lt h2) (Int.le_of_lt h1)
  simpa using h3
theorem p10_add {a b : Int} (h : 0 ≤ a) (h' : 0 ≤ b) : p10 (a + b) = p10 a * p10 b := by
  unfold p10
  rw [Int.toNat_add h h', Int.pow_add]
theorem mul10 {a e : Int} (h : e ≤ 18) : IntMulOk a (p10 e) := IntMulOk.of_right (PySem.intBits_le_64 (by have := p10_pos e; omega) (by
  have h1 := p10_le h
  have h2 : p10 18 = 1000000000000000000 := by decide
  omega))
theorem mulP {prog : Program} {w : World} {A : Around} {E : Value → Shared → Prop} {s : Shared} {Q : Value → Shared → Prop} {a e : Int} {t u : Tok} (h1 : e ≤ 18) (h : Q (.int (a * p10 e) s.toks) { s with toks := s.toks + 1 }) :
    wpAny (model prog w) A (binaryOp .Mult (.int a t) (.int (p10 e) u)) Q E s := mul_int h (mul10 h1)
local macro_rules | `(tactic| walk_at "binaryOp Pow int int") => `(tactic| (k_here; (with_reducible refine pow10 ?a ?b ?_); (case a => omega); (case b => omega)))
local macro_rules | `(tactic| walk_at "binaryOp Mult int int") => `(tactic| (k_here; (with_reducible refine mulP ?a ?_); (case a => omega)))

theorem ub_tells {w : World} {p : Program} {loose : List Str} {mean : ExcName → Option Value} {mg mb : Str → Option Value}
   (a b : Addr) (u1 s1 u2 s2 : Int) (t1 t2 t3 t4 : Tok) (news : Led) (ha : (a, iTup [.int u1 t1, .int s1 t2]) ∈ news) (hb : (b, iTup [.int u2 t3, .int s2 t4]) ∈ news)
   (h1 : 0 ≤ s1) (h2 : s1 ≤ 6) (h3 : 0 ≤ s2) (h4 : s2 ≤ 6) :
   Tells w p loose mean mg mb 84 [.ref a, .ref b] news 1 8 (fun r news' => ∃ c v1 v2 m tk1 tk2 tk3, r = .ref c ∧ news' = (c, iTup [.int v1 tk1, .int v2 tk2, .int m tk3]) :: news ∧ (∀ p ∈ news, p.1 < c) ∧ 0 ≤ m ∧ m ≤ 6 ∧ s1 ≤ m ∧ s2 ≤ m ∧ v1 = u1 * p10 (m - s1) ∧ v2 = u2 * p10 (m - s2)) := by
  unfold Tells
  intro dp un gd cn cs a ccd cl outer A₀ base h₀ L m s Q E B F X N T hcs hdp hun hret
  refine wpAny_call ?_
  k_dflt cell_enter
  k_steps
  exact hret _ _ _ _ (by assumption) (by assumption) ⟨_, _, _, if s2 > s1 then s2 else s1, _, _, _, rfl, rfl, by assumption, by split <;> omega, by split <;> omega, by split <;> omega, by split <;> omega, rfl, rfl⟩

theorem lt_drop {c : Addr} {x : Addr × Obj} {r : Led} (h : ∀ p ∈ x :: r, p.1 < c) : ∀ p ∈ r, p.1 < c := fun p hp => h p (.tail _ hp)
theorem news_drop2 {h₀ h : Heap} {L : Addr} {x y : Addr × Obj} {r : Led} (N : News h₀ L h (x :: y :: r)) : News h₀ L h (x :: r) := fun p hp => N p (by
  rcases List.mem_cons.mp hp with rfl | hp
  · exact .head _
  · exact .tail _ (.tail _ hp))

noncomputable def isDec (u s U : Int) : Prop := 0 ≤ s ∧ s ≤ 6 ∧ u * p10 (6 - s) = U
theorem p10_zero : p10 0 = 1 := rfl
theorem p10_succ {e : Int} (h : 0 ≤ e) : p10 (e + 1) = p10 e * 10 := by rw [p10_add h (by decide)]; rfl
theorem normD_dec (n : Nat) : ∀ u : Int, n ≤ 6 → isDec (normD u n).1 (normD u n).2 (u * p10 (6 - n)) := by
  induction n with
  | zero => intro u _; exact ⟨by simp [normD], by simp [normD], rfl⟩
  | succ n ih =>
    intro u hn
    unfold normD
    by_cases h : u.fmod 10 = 0
    · rw [if_pos h]
      obtain ⟨a, b, c⟩ := ih (u.fdiv 10) (by omega)
      refine ⟨a, b, c.trans ?_⟩
      have e : (6 - (n : Int)) = (6 - ((n + 1 : Nat) : Int)) + 1 := by omega
      have e2 : u.fdiv 10 * 10 = u := by
        have := Int.fmod_add_mul_fdiv u 10
        omega
      rw [e, p10_succ (by omega)]
      generalize p10 (6 - ((n + 1 : Nat) : Int)) = P
      rw [Int.mul_comm P 10, ← Int.mul_assoc, e2]
    · rw [if_neg h]
      exact ⟨by omega, by omega, rfl⟩
theorem sum_dec {u1 s1 U1 u2 s2 U2 m : Int} (d1 : isDec u1 s1 U1) (d2 : isDec u2 s2 U2) (h : m ≤ 6) (h1 : s1 ≤ m) (h2 : s2 ≤ m) :
    (u1 * p10 (m - s1)) * p10 (6 - m) = U1 ∧ (u2 * p10 (m - s2)) * p10 (6 - m) = U2 := by
  obtain ⟨a1, b1, c1⟩ := d1
  obtain ⟨a2, b2, c2⟩ := d2
  constructor
  · rw [Int.mul_assoc, ← p10_add (by omega) (by omega), ← c1]; congr 2; omega
  · rw [Int.mul_assoc, ← p10_add (by omega) (by omega), ← c2]; congr 2; omega
theorem plus_dec {u1 s1 U1 u2 s2 U2 m v1 v2 : Int} (d1 : isDec u1 s1 U1) (d2 : isDec u2 s2 U2) (h0 : 0 ≤ m) (h : m ≤ 6) (h1 : s1 ≤ m) (h2 : s2 ≤ m) (e1 : v1 = u1 * p10 (m - s1)) (e2 : v2 = u2 * p10 (m - s2)) :
    isDec (normD (v1 + v2) m.toNat).1 (normD (v1 + v2) m.toNat).2 (U1 + U2) := by
  obtain ⟨a, b⟩ := sum_dec d1 d2 h h1 h2
  have := normD_dec m.toNat (v1 + v2) (by omega)
  have e : ((m.toNat : Nat) : Int) = m := by omega
  rw [e] at this
  rw [← a, ← b, ← e1, ← e2, ← Int.add_mul]
  exact this
theorem minus_dec {u1 s1 U1 u2 s2 U2 m v1 v2 : Int} (d1 : isDec u1 s1 U1) (d2 : isDec u2 s2 U2) (h0 : 0 ≤ m) (h : m ≤ 6) (h1 : s1 ≤ m) (h2 : s2 ≤ m) (e1 : v1 = u1 * p10 (m - s1)) (e2 : v2 = u2 * p10 (m - s2)) :
    isDec (normD (v1 - v2) m.toNat).1 (normD (v1 - v2) m.toNat).2 (U1 - U2) := by
  obtain ⟨a, b⟩ := sum_dec d1 d2 h h1 h2
  have := normD_dec m.toNat (v1 - v2) (by omega)
  have e : ((m.toNat : Nat) : Int) = m := by omega
  rw [e] at this
  rw [← a, ← b, ← e1, ← e2, ← Int.sub_mul]
  exact this
theorem eq_dec {u1 s1 U u2 s2 m v1 v2 : Int} (d1 : isDec u1 s1 U) (d2 : isDec u2 s2 U) (h0 : 0 ≤ m) (h : m ≤ 6) (h1 : s1 ≤ m) (h2 : s2 ≤ m) (e1 : v1 = u1 * p10 (m - s1)) (e2 : v2 = u2 * p10 (m - s2)) : v1 = v2 := by
  obtain ⟨a, b⟩ := sum_dec d1 d2 h h1 h2
  rw [← e1] at a
  rw [← e2] at b
  exact Int.eq_of_mul_eq_mul_right (Int.ne_of_gt (p10_pos (6 - m))) (a.trans b.symm)

noncomputable abbrev DecAt (news : Led) (a : Addr) (U : Int) : Prop := ∃ u s t1 t2, (a, iTup [.int u t1, .int s t2]) ∈ news ∧ isDec u s U

theorem tells_call {w : World} {p : Program} {loose : List Str} {mean : ExcName → Option Value} {mg mb : Str → Option Value} {f : Addr} {vs : List Value} {news : Led} {dd uu : Nat} {Ret : Value → Led → Prop}
    {dp un : Nat} {gd : Option (List Code)} {cn : Str} {cs : Scope} {a : Addr} {ccd : Value} {cl : List (Str × Addr)} {outer : List Env} {A₀ : Around} {base h₀ : Heap} {L : Addr} {m : Str → Option Value} {s : Shared} {Q E : Value → Shared → Prop}
    (B : Below A₀ base outer h₀) (F : Fr h₀ L s.heap m) (X : (hd.heap_39 w.params).In h₀) (N : News h₀ L s.heap news) (T : Top p loose mean mg mb h₀) (hk : cs.kind = .function)
    (C : Tells w p loose mean mg mb f vs news dd uu Ret) (hd : dp + dd < recursionLimit) (hu : un + uu < cLine)
    (ret : ∀ r h' tk' news', Fr h₀ L h' m → News h₀ L h' news' → Ret r news' → Q r { s with heap := h', toks := tk' }) :
    wpAny (model PR w) (ktrTop dp un gd cn cs L a ccd cl outer) (call (.ref f) vs) Q E s := C _ _ _ _ _ _ _ _ _ _ _ _ _ _ _ _ _ B F X N T hk hd hu ret

noncomputable def Halt (P : Prop) : Prop := P
theorem haltCall {M : Model} {A : Around} {f : Addr} {vs : List Value} {Q E : Value → Shared → Prop} {s : Shared} (h : Halt (wpAny M A (call (.ref f) vs) Q E s)) : wpAny M A (call (.ref f) vs) Q E s := h
local macro_rules | `(tactic| walk_at "call ref") => `(tactic| (k_here; with_reducible refine haltCall ?_))
theorem plus_tells {w : World} {p : Program} {loose : List Str} {mean : ExcName → Option Value} {mg mb : Str → Option Value}
   (a b : Addr) (U1 U2 : Int) (news : Led) (ha : DecAt news a U1) (hb : DecAt news b U2) :
   Tells w p loose mean mg mb 91 [.ref a, .ref b] news 2 16 (fun r news' => ∃ c u s tk1 tk2, r = .ref c ∧ news' = (c, iTup [.int u tk1, .int s tk2]) :: news ∧ isDec u s (U1 + U2) ∧ (∀ p ∈ news, p.1 < c)) := by
  unfold Tells
  intro dp un gd cn cs ca ccd cl outer A₀ base h₀ L m s Q E B F X N T hcs hdp hun hret
  obtain ⟨u1, s1, t1, t2, ha, d1⟩ := ha
  obtain ⟨u2, s2, t3, t4, hb, d2⟩ := hb
  obtain ⟨a1, b1, c1⟩ := id d1
  obtain ⟨a2, b2, c2⟩ := id d2
  refine wpAny_call ?_
  k_dflt cell_enter
  k_steps
  unfold Halt
  k_dflt (refine' tells_call ?k1 ?k2 ?k3 ?k4 ?k5 ?kK (ub_tells _ _ _ _ _ _ _ _ _ _ _ ?m1 ?m2 ?o1 ?o2 ?o3 ?o4) ?kd ?ku ?_)
  case k1 => k_asm
  case k2 => k_asm
  case k3 => k_asm
  case k4 => k_asm
  case k5 => k_asm
  case kK => first | exact rfl | assumption
  case m1 => first | k_mem | fail "x"
  case m2 => first | k_mem | fail "x"
  case o1 => assumption
  case o2 => assumption
  case o3 => assumption
  case o4 => assumption
  case kd => ktr_room
  case ku => ktr_units
  refine fun r9 h9 tk9 news9 F9 N9 X9 => ?_
  obtain ⟨c9, v1, v2, m9, tk1, tk2, tk3, e1, e2, l9, x1, x2, x3, x4, x5, x6⟩ := X9
  subst e1
  subst e2
  try dsimp only
  try k_fold
  k_steps
  unfold Halt
  k_dflt (refine' tells_call ?k1 ?k2 ?k3 ?k4 ?k5 ?kK (dec_tells _ _ _ _ _ ?o1) ?kd ?ku ?_)
  case k1 => k_asm
  case k2 => k_asm
  case k3 => k_asm
  case k4 => k_asm
  case k5 => k_asm
  case kK => first | exact rfl | assumption
  case o1 => omega
  case kd => ktr_room
  case ku => ktr_units
  refine fun r9 h9 tk9 news9 F9 N9 X9 => ?_
  obtain ⟨c9, tk1, tk2, e1, e2, l9⟩ := X9
  subst e1
  subst e2
  try dsimp only
  try k_fold
  k_steps
  refine hret _ _ _ _ (by assumption) (news_drop2 (by assumption)) ⟨_, _, _, _, _, rfl, rfl, plus_dec d1 d2 (by assumption) (by assumption) (by assumption) (by assumption) (by assumption) (by assumption), lt_drop (by assumption)⟩
theorem minus_tells {w : World} {p : Program} {loose : List Str} {mean : ExcName → Option Value} {mg mb : Str → Option Value}
   (a b : Addr) (U1 U2 : Int) (news : Led) (ha : DecAt news a U1) (hb : DecAt news b U2) :
   Tells w p loose mean mg mb 98 [.ref a, .ref b] news 2 16 (fun r news' => ∃ c u s tk1 tk2, r = .ref c ∧ news' = (c, iTup [.int u tk1, .int s tk2]) :: news ∧ isDec u s (U1 - U2) ∧ (∀ p ∈ news, p.1 < c)) := by
  unfold Tells
  intro dp un gd cn cs ca ccd cl outer A₀ base h₀ L m s Q E B F X N T hcs hdp hun hret
  obtain ⟨u1, s1, t1, t2, ha, d1⟩ := ha
  obtain ⟨u2, s2, t3, t4, hb, d2⟩ := hb
  obtain ⟨a1, b1, c1⟩ := id d1
  obtain ⟨a2, b2, c2⟩ := id d2
  refine wpAny_call ?_
  k_dflt cell_enter
  k_steps
  unfold Halt
  k_dflt (refine' tells_call ?k1 ?k2 ?k3 ?k4 ?k5 ?kK (ub_tells _ _ _ _ _ _ _ _ _ _ _ ?m1 ?m2 ?o1 ?o2 ?o3 ?o4) ?kd ?ku ?_)
  case k1 => k_asm
  case k2 => k_asm
  case k3 => k_asm
  case k4 => k_asm
  case k5 => k_asm
  case kK => first | exact rfl | assumption
  case m1 => first | k_mem | fail "x"
  case m2 => first | k_mem | fail "x"
  case o1 => assumption
  case o2 => assumption
  case o3 => assumption
  case o4 => assumption
  case kd => ktr_room
  case ku => ktr_units
  refine fun r9 h9 tk9 news9 F9 N9 X9 => ?_
  obtain ⟨c9, v1, v2, m9, tk1, tk2, tk3, e1, e2, l9, x1, x2, x3, x4, x5, x6⟩ := X9
  subst e1
  subst e2
  try dsimp only
  try k_fold
  k_steps
  unfold Halt
  k_dflt (refine' tells_call ?k1 ?k2 ?k3 ?k4 ?k5 ?kK (dec_tells _ _ _ _ _ ?o1) ?kd ?ku ?_)
  case k1 => k_asm
  case k2 => k_asm
  case k3 => k_asm
  case k4 => k_asm
  case k5 => k_asm
  case kK => first | exact rfl | assumption
  case o1 => omega
  case kd => ktr_room
  case ku => ktr_units
  refine fun r9 h9 tk9 news9 F9 N9 X9 => ?_
  obtain ⟨c9, tk1, tk2, e1, e2, l9⟩ := X9
  subst e1
  subst e2
  try dsimp only
  try k_fold
  k_steps
  refine hret _ _ _ _ (by assumption) (news_drop2 (by assumption)) ⟨_, _, _, _, _, rfl, rfl, minus_dec d1 d2 (by assumption) (by assumption) (by assumption) (by assumption) (by assumption) (by assumption), lt_drop (by assumption)⟩
theorem news_drop1 {h₀ h : Heap} {L : Addr} {x : Addr × Obj} {r : Led} (N : News h₀ L h (x :: r)) : News h₀ L h r := fun p hp => N p (.tail _ hp)
theorem cmp_tells {w : World} {p : Program} {loose : List Str} {mean : ExcName → Option Value} {mg mb : Str → Option Value}
   (a b : Addr) (U : Int) (news : Led) (ha : DecAt news a U) (hb : DecAt news b U) :
   Tells w p loose mean mg mb 112 [.ref a, .ref b] news 2 16 (fun r news' => ∃ tk, r = .int 0 tk ∧ news' = news) := by
  unfold Tells
  intro dp un gd cn cs ca ccd cl outer A₀ base h₀ L m s Q E B F X N T hcs hdp hun hret
  obtain ⟨u1, s1, t1, t2, ha, d1⟩ := ha
  obtain ⟨u2, s2, t3, t4, hb, d2⟩ := hb
  obtain ⟨a1, b1, c1⟩ := id d1
  obtain ⟨a2, b2, c2⟩ := id d2
  refine wpAny_call ?_
  k_dflt cell_enter
  k_steps
  unfold Halt
  k_dflt (refine' tells_call ?k1 ?k2 ?k3 ?k4 ?k5 ?kK (ub_tells _ _ _ _ _ _ _ _ _ _ _ ?m1 ?m2 ?o1 ?o2 ?o3 ?o4) ?kd ?ku ?_)
  case k1 => k_asm
  case k2 => k_asm
  case k3 => k_asm
  case k4 => k_asm
  case k5 => k_asm
  case kK => first | exact rfl | assumption
  case m1 => first | k_mem | fail "x"
  case m2 => first | k_mem | fail "x"
  case o1 => assumption
  case o2 => assumption
  case o3 => assumption
  case o4 => assumption
  case kd => ktr_room
  case ku => ktr_units
  refine fun r9 h9 tk9 news9 F9 N9 X9 => ?_
  obtain ⟨c9, v1, v2, m9, tk1, tk2, tk3, e1, e2, l9, x1, x2, x3, x4, x5, x6⟩ := X9
  subst e1
  subst e2
  try dsimp only
  try k_fold
  k_steps
  · exact hret _ _ _ _ (by assumption) (news_drop1 (by assumption)) ⟨_, rfl, rfl⟩
  all_goals exact absurd (eq_dec d1 d2 (by assumption) (by assumption) (by assumption) (by assumption) (by assumption) (by assumption)) (by omega)
noncomputable def isWay (way : Str) (sg : Int) : Prop := (way = Str.ofString "+" ∧ sg = 1) ∨ (way = Str.ofString "-" ∧ sg = -1)
theorem way_tells {w : World} {p : Program} {loose : List Str} {mean : ExcName → Option Value} {mg mb : Str → Option Value}
   (way : Str) (sg : Int) (tw : Tok) (a b : Addr) (U1 U2 : Int) (news : Led) (hw : isWay way sg) (ha : DecAt news a U1) (hb : DecAt news b U2) :
   Tells w p loose mean mg mb 134 [.str way tw, .ref a, .ref b] news 3 24 (fun r news' => ∃ c u s tk1 tk2, r = .ref c ∧ news' = (c, iTup [.int u tk1, .int s tk2]) :: news ∧ isDec u s (U1 + sg * U2) ∧ (∀ p ∈ news, p.1 < c)) := by
  unfold Tells
  intro dp un gd cn cs ca ccd cl outer A₀ base h₀ L m s Q E B F X N T hcs hdp hun hret
  rcases hw with ⟨rfl, rfl⟩ | ⟨rfl, rfl⟩
  all_goals refine wpAny_call ?_
  all_goals k_dflt cell_enter
  all_goals k_steps
  · unfold Halt
    k_dflt (refine' tells_call ?k1 ?k2 ?k3 ?k4 ?k5 ?kK (plus_tells _ _ _ _ _ ?m1 ?m2) ?kd ?ku ?_)
    case k1 => k_asm
    case k2 => k_asm
    case k3 => k_asm
    case k4 => k_asm
    case k5 => k_asm
    case kK => first | exact rfl | assumption
    case m1 => assumption
    case m2 => assumption
    case kd => ktr_room
    case ku => ktr_units
    refine fun r9 h9 tk9 news9 F9 N9 X9 => ?_
    obtain ⟨c9, u9, s9, tk1, tk2, e1, e2, d9, l9⟩ := X9
    subst e1
    subst e2
    try dsimp only
    try k_fold
    k_steps
    exact hret _ _ _ _ (by assumption) (by assumption) ⟨_, _, _, _, _, rfl, rfl, by simpa only [Int.one_mul, Int.neg_mul, ← Int.sub_eq_add_neg], by assumption⟩
  · unfold Halt
    k_dflt (refine' tells_call ?k1 ?k2 ?k3 ?k4 ?k5 ?kK (minus_tells _ _ _ _ _ ?m1 ?m2) ?kd ?ku ?_)
    case k1 => k_asm
    case k2 => k_asm
    case k3 => k_asm
    case k4 => k_asm
    case k5 => k_asm
    case kK => first | exact rfl | assumption
    case m1 => assumption
    case m2 => assumption
    case kd => ktr_room
    case ku => ktr_units
    refine fun r9 h9 tk9 news9 F9 N9 X9 => ?_
    obtain ⟨c9, u9, s9, tk1, tk2, e1, e2, d9, l9⟩ := X9
    subst e1
    subst e2
    try dsimp only
    try k_fold
    k_steps
    exact hret _ _ _ _ (by assumption) (by assumption) ⟨_, _, _, _, _, rfl, rfl, by simpa only [Int.one_mul, Int.neg_mul, ← Int.sub_eq_add_neg], by assumption⟩
end
section
open PySem PySem.W PyProof.Rows

noncomputable def PlEnd (h₀ : Heap) (L : Addr) (J : (Str → Option Value) → Led → Prop) (I : Addr) (oi : Obj) (s₁ : Shared) (f : Flow) (s₂ : Shared) : Prop :=
  f = .next ∧ ∃ h' tk m' nx, s₂ = { s₁ with heap := h', toks := tk } ∧ Fr h₀ L h' m' ∧ News h₀ L h' ((I, oi) :: nx) ∧ (∀ p ∈ nx, p.1 ≠ I) ∧ J m' nx
theorem PlEnd.intro {h₀ h' : Heap} {L I : Addr} {oi : Obj} {J : (Str → Option Value) → Led → Prop} {s₁ : Shared} {tk : Nat} {m' : Str → Option Value} {nx : Led} (F : Fr h₀ L h' m') (N : News h₀ L h' ((I, oi) :: nx)) (ho : ∀ p ∈ nx, p.1 ≠ I) (hj : J m' nx) :
    PlEnd h₀ L J I oi s₁ .next { s₁ with heap := h', toks := tk } := ⟨rfl, h', tk, m', nx, rfl, F, N, ho, hj⟩

section
variable {prog : Program} {w : World} {A : Around} {E : Value → Shared → Prop} {s : Shared} {env : Env} {h₀ : Heap} {target : Expr} {body : List Stmt} {Q : Flow → Shared → Prop}
theorem iter_pairs {l : Addr} {vs : List Value} {n : Nat} {m₀ : Str → Option Value} {news : Led} (J : Nat → (Str → Option Value) → Led → Prop)
    (hh : A.handled = none) (F : Fr h₀ env.locals s.heap m₀) (N : News h₀ env.locals s.heap news) (hj : J 0 m₀ news)
    (hJl : ∀ i m nx, J i m nx → (l, listOf vs.toArray n) ∈ nx)
    (turn : ∀ i v m₁ nx s₁ I oi, vs[i]? = some v → (∀ p ∈ nx, p.1 ≠ I) → J i m₁ nx → Fr h₀ env.locals s₁.heap m₁ → News h₀ env.locals s₁.heap ((I, oi) :: nx) →
      wpAny (model prog w) A (assign target env v) (fun _ s₃ => wpAny (model prog w) A (execs body env) (PlEnd h₀ env.locals (J (i + 1)) I oi s₁) E s₃) E s₁)
    (done : ∀ m₁ nx h tk, J vs.length m₁ nx → Fr h₀ env.locals h m₁ → News h₀ env.locals h nx → Q .next { s with heap := h, toks := tk }) :
    wpAny (model prog w) A (pyIter (.ref l)) (fun it s₂ => LoopAtT prog w A h₀ env target body Q E it s₂) E s := by
  have hl := hJl _ _ _ hj
  have hls : s.heap.IsList l vs.toArray := ⟨_, (N _ hl).1, rfl, ⟨_, rfl⟩⟩
  have hne : l ≠ s.heap.objs.size := Nat.ne_of_lt (Heap.lt_size (N _ hl).1)
  refine wpAny_pyIter_list hls ?_
  have W := Walks.list (prog := prog) (w := w) hh s.heap.objs.size l hne vs.toArray
  have hlen : vs.toArray.size = vs.length := by simp
  rw [hlen] at W
  refine ⟨_, _, _, vs.length, _, _, m₀, news, J, rfl, W, ?_, ?_, ?_, ⟨⟨_, Heap.get?_push_size _ rfl, rfl, rfl⟩, hls.at fun o e => Heap.get?_push_of_some _ e⟩, F.push _, (fun p hp => ⟨Heap.get?_push_of_some _ (N p hp).1, (N p hp).2⟩), (fun i s' v Q' st hQ' => letGo_listiter st.1 hQ'), hj, ?_, ?_⟩
  · intro hm
    rcases List.mem_cons.mp hm with e | hm
    · exact absurd F.ns.lt (e ▸ Nat.lt_irrefl _)
    · exact (N _ hl).2.1 (List.mem_singleton.mp hm).symm
  · intro b hb
    rw [List.mem_singleton.mp hb]
    exact next_is_new F
  · intro p hp hI
    exact absurd (Heap.lt_size (N p hp).1) ((List.mem_singleton.mp hI) ▸ Nat.lt_irrefl _)
  · rintro i v m₁ news₁ s₁ own hin hP hJ hoff hown hget hmem hst F₁ N₁
    obtain ⟨⟨oi, hoi, _⟩, _⟩ := hst
    have hI : (s.heap.objs.size, oi) ∈ own := hmem _ (.head _) (next_is_new F) oi hoi
    have N₂ : News h₀ env.locals s₁.heap ((s.heap.objs.size, oi) :: news₁) := fun p hp => N₁ p ((List.mem_cons.mp hp).elim (fun e => List.mem_append.mpr (.inl (e ▸ hI))) fun e => List.mem_append.mpr (.inr e))
    have hl₁ := N₂ _ (.tail _ (hJl _ _ _ hJ))
    refine wpAny_mono (turn i v m₁ news₁ s₁ _ oi (by simpa using hP) (fun p hp e => hoff p hp (by rw [e]; exact .head _)) hJ F₁ N₂) (fun _ s₂ p => wpAny_mono p (fun f s₃ z => ?_) fun _ _ e => e) fun _ _ e => e
    obtain ⟨rfl, h', tk, m', nx, rfl, F', N', ho, hj'⟩ := z
    refine ⟨rfl, h', tk, m', nx, rfl, F', fun p hp => ?_, fun p hp q => ho p hp (List.mem_singleton.mp q), hj'⟩
    rcases List.mem_append.mp hp with hp | hp
    · have g := hget p hp
      rcases List.mem_cons.mp (hown p hp) with e | e
      · refine N' p (List.mem_cons.mpr (.inl ?_))
        rw [e, hoi] at g
        exact Prod.ext e (Option.some.inj g).symm
      · have e := List.mem_singleton.mp e
        refine N' p (.tail _ ?_)
        rw [e, hl₁.1] at g
        have q : p = (l, listOf vs.toArray n) := Prod.ext e (Option.some.inj g).symm
        rw [q]
        exact hJl _ _ _ hj'
    · exact N' p (.tail _ hp)
  · rintro h' tk m' news' F' N' _ hJ
    exact done m' news' h' tk hJ F' N'
end

noncomputable abbrev sA : Str := Str.ofString "A"
noncomputable abbrev sB : Str := Str.ofString "B"
noncomputable abbrev sC : Str := Str.ofString "C"
noncomputable abbrev sD : Str := Str.ofString "D"
noncomputable def isNm (x : Str) : Prop := x = sA ∨ x = sB ∨ x = sC ∨ x = sD
noncomputable def d4 (f : Str → Value) : List (Str × Value) := [(sA, f sA), (sB, f sB), (sC, f sC), (sD, f sD)]
theorem nBA : ¬ sB = sA := by decide
theorem nCA : ¬ sC = sA := by decide
theorem nDA : ¬ sD = sA := by decide
theorem nCB : ¬ sC = sB := by decide
theorem nDB : ¬ sD = sB := by decide
theorem nDC : ¬ sD = sC := by decide
theorem nAB : ¬ sA = sB := by decide
theorem nAC : ¬ sA = sC := by decide
theorem nAD : ¬ sA = sD := by decide
theorem nBC : ¬ sB = sC := by decide
theorem nBD : ¬ sB = sD := by decide
theorem nCD : ¬ sC = sD := by decide
noncomputable def put {α : Type} (f : Str → α) (x : Str) (v : α) : Str → α := fun y => if y = x then v else f y
theorem d4_get {f : Str → Value} {x : Str} {v : Value} (hx : isNm x) (e : f x = v) : valueAt (d4 f) x = some v := by
  subst e
  rcases hx with rfl | rfl | rfl | rfl
  · simp [valueAt, d4]
  · simp [valueAt, d4, nAB]
  · simp [valueAt, d4, nAC, nBC]
  · simp [valueAt, d4, nAD, nBD, nCD]
theorem d4_put {f : Str → Value} {x : Str} {v : Value} (hx : isNm x) : stored (d4 f) x v = d4 (put f x v) := by
  rcases hx with rfl | rfl | rfl | rfl
  · simp [stored, d4, put, nBA, nCA, nDA]
  · simp [stored, d4, put, nAB, nCB, nDB]
  · simp [stored, d4, put, nAC, nBC, nDC]
  · simp [stored, d4, put, nAD, nBD, nCD]

noncomputable def PairsAre (news : Led) : List Value → List (Str × Str) → Prop
  | [], [] => True
  | v :: vs, p :: ps => (∃ a t1 t2, v = .ref a ∧ (a, iTup [.str p.1 t1, .str p.2 t2]) ∈ news ∧ isNm p.1 ∧ isNm p.2) ∧ PairsAre news vs ps
  | _, _ => False
theorem PairsAre.length {news : Led} : ∀ {vs : List Value} {ps : List (Str × Str)}, PairsAre news vs ps → vs.length = ps.length
  | [], [], _ => rfl
  | _ :: _, _ :: _, h => by rw [List.length_cons, List.length_cons, h.2.length]
theorem PairsAre.get {news : Led} : ∀ {vs : List Value} {ps : List (Str × Str)} {i : Nat} {v : Value}, PairsAre news vs ps → vs[i]? = some v →
    ∃ x y a t1 t2, ps[i]? = some (x, y) ∧ v = .ref a ∧ (a, iTup [.str x t1, .str y t2]) ∈ news ∧ isNm x ∧ isNm y
  | [], [], _, _, _, e => by simp at e
  | _ :: _, p :: _, 0, _, h, e => by
    obtain ⟨⟨a, t1, t2, h1, h2, h3, h4⟩, _⟩ := h
    rw [List.getElem?_cons_zero] at e
    exact ⟨p.1, p.2, a, t1, t2, rfl, (Option.some.inj e).symm.trans h1, h2, h3, h4⟩
  | _ :: _, _ :: _, i + 1, _, h, e => by
    rw [List.getElem?_cons_succ] at e
    exact h.2.get e
theorem PairsAre.mono {news news' : Led} (hs : ∀ p ∈ news, p ∈ news') : ∀ {vs : List Value} {ps : List (Str × Str)}, PairsAre news vs ps → PairsAre news' vs ps
  | [], [], _ => trivial
  | _ :: _, _ :: _, h => by
    obtain ⟨⟨a, t1, t2, h1, h2, h3⟩, h4⟩ := h
    exact ⟨⟨a, t1, t2, h1, hs _ h2, h3⟩, h4.mono hs⟩

noncomputable def ab (a : Int) : Int := if a < 0 then -a else a
noncomputable def stepD (sg : Int) (B : Str → Int) (st : (Str → Int) × Bool) (p : Str × Str) : (Str → Int) × Bool :=
  if ab (st.1 p.2 + sg * st.1 p.1) > B p.2 * p10 6 then (st.1, true) else (put st.1 p.2 (st.1 p.2 + sg * st.1 p.1), st.2)
noncomputable def runD (sg : Int) (B V : Str → Int) (ps : List (Str × Str)) : (Str → Int) × Bool := ps.foldl (stepD sg B) (V, false)
theorem runD_take {sg : Int} {B V : Str → Int} {ps : List (Str × Str)} {i : Nat} {x y : Str} (h : ps[i]? = some (x, y)) : runD sg B V (ps.take (i + 1)) = stepD sg B (runD sg B V (ps.take i)) (x, y) := by
  unfold runD
  rw [List.take_add_one, h, List.foldl_append]
  rfl
noncomputable def word (b : Bool) : Str := if b then Str.ofString "size" else Str.ofString ""
noncomputable def Ints (f : Str → Value) (V : Str → Int) : Prop := ∀ x, ∃ t, f x = .int (V x) t
theorem Ints.put {f : Str → Value} {V : Str → Int} (h : Ints f V) (x : Str) (u : Int) (t : Tok) : Ints (put f x (.int u t)) (put V x u) := fun y => by
  unfold Mine.put
  by_cases e : y = x
  · rw [if_pos e, if_pos e]; exact ⟨t, rfl⟩
  · rw [if_neg e, if_neg e]; exact h y
end
section
local macro_rules | `(tactic| walk_at "binaryOp Pow int int") => `(tactic| (k_here; (with_reducible refine pow10 ?a ?b ?_); (case a => omega); (case b => omega)))
local macro_rules | `(tactic| walk_at "binaryOp Mult int int") => `(tactic| (k_here; (with_reducible refine mulP ?a ?_); (case a => omega)))
section
open PySem PySem.W PyProof.Rows
theorem off6 : True := by
  w_top off
  trivial
theorem fill4 (_ : PySem.Challenge.rw_pb0227_01 = PySem.Challenge.rw_pb0227_01) (_ : hd.heap_39 = hd.heap_39) : PySem.Challenge.rw_pb0227_01 = PySem.Challenge.rw_pb0227_01 ∧ hd.heap_39 = hd.heap_39 := by
  k_fill
  exact ⟨rfl, rfl⟩
-- a dict of the four names, read and stored at a name
local macro_rules | `(tactic| walk_at "subscriptTail") => `(tactic| (k_here; (with_reducible show wpAny _ _ (subscriptTail _ _ (Value.ref _) (Value.str _ _)) _ _ _); k_dflt (refine' kda_item (knd := PySem.strKind _ _) (kvs := d4 _) ?N ?m ?d (strKind_is _ _ _ _) (d4_get ?x ?e) ?_; (case N => k_asm); (case m => k_mem); (case d => k_asm); (case x => assumption); (case e => assumption))))
theorem halt_here {P : Prop} (h : Halt P) : P := h
local macro_rules | `(tactic| walk_at "setItem ref str") => `(tactic| (k_here; refine halt_here ?_))

theorem named {g h : Heap} {L : Addr} {m : Str → Option Value} (F : Fr g L h m) : ∃ m₀, m₀ = m ∧ Fr g L h m₀ := ⟨m, rfl, F⟩
theorem map4 {m m₁ : Str → Option Value} {a b c d : Str} {v : Value} (h : m a = some v) (hm : ∀ z, z ≠ a → z ≠ b → z ≠ c → z ≠ d → m z = m₁ z) :
    m = fun z => if z = a then some v else if z = b then m b else if z = c then m c else if z = d then m d else m₁ z := by
  funext z
  by_cases h1 : z = a
  · rw [if_pos h1, h1, h]
  rw [if_neg h1]
  by_cases h2 : z = b
  · rw [if_pos h2, h2]
  rw [if_neg h2]
  by_cases h3 : z = c
  · rw [if_pos h3, h3]
  rw [if_neg h3]
  by_cases h4 : z = d
  · rw [if_pos h4, h4]
  rw [if_neg h4]
  exact hm z h1 h2 h3 h4
theorem neg_one (a : Int) : -1 * a = -a := by omega
theorem stepD_big {sg : Int} {B : Str → Int} {st : (Str → Int) × Bool} {x y : Str} {u : Int} (e : sg * st.1 x = u) (h : B y * p10 6 < (if st.1 y + u < 0 then -(st.1 y + u) else st.1 y + u)) : stepD sg B st (x, y) = (st.1, true) := by
  subst e
  exact if_pos h
theorem stepD_small {sg : Int} {B : Str → Int} {st : (Str → Int) × Bool} {x y : Str} {u : Int} (e : sg * st.1 x = u) (h : ¬ B y * p10 6 < (if st.1 y + u < 0 then -(st.1 y + u) else st.1 y + u)) : stepD sg B st (x, y) = (put st.1 y (st.1 y + u), st.2) := by
  subst e
  exact if_neg h
theorem off_head {a I : Addr} {o o' : Obj} {r : Led} (h : ∀ p ∈ (a, o) :: r, p.1 ≠ I) : ∀ p ∈ (a, o') :: r, p.1 ≠ I := fun p hp => by
  rcases List.mem_cons.mp hp with rfl | hp
  · exact h (a, o) (.head _)
  · exact h p (.tail _ hp)
local macro_rules | `(tactic| walk_at "execs cons") => `(tactic| (k_here; k_fold))
local macro_rules | `(tactic| walk_at "eval Call") => `(tactic| (k_here; k_fold))
local macro_rules | `(tactic| walk_at "eval Compare") => `(tactic| (k_here; k_fold))
local macro_rules | `(tactic| walk_at "eval BinOp") => `(tactic| (k_here; k_fold))
local macro_rules | `(tactic| walk_at "eval Subscript") => `(tactic| (k_here; k_fold))
local macro_rules | `(tactic| walk_at "callWith") => `(tactic| (k_here; k_fold))
theorem due_tells {w : World} {p : Program} {loose : List Str} {mean : ExcName → Option Value} {mg mb : Str → Option Value}
   (Pl Bd Pr : Addr) (oP oB : Obj) (f g : Str → Value) (V B : Str → Int) (vs : List Value) (n : Nat) (ps : List (Str × Str)) (way : Str) (sg : Int) (tw : Tok) (tl : Led)
   (hw : isWay way sg) (hP : oP.IsDictOf (PySem.strKind PR w) (d4 f)) (hB : oB.IsDictOf (PySem.strKind PR w) (d4 g)) (hf : Ints f V) (hg : Ints g B) (hps : PairsAre tl vs ps)
   (n1 : Bd ≠ Pl) (n2 : Pr ≠ Pl) (n3 : ∀ p ∈ tl, p.1 ≠ Pl) :
   Tells w p loose mean mg mb 162 [.ref Pl, .ref Bd, .ref Pr, .str way tw] ((Pl, oP) :: (Bd, oB) :: (Pr, listOf vs.toArray n) :: tl) 1 8
    (fun r news' => ∃ oP' f' tk, r = .str (word (runD sg B V ps).2) tk ∧ news' = (Pl, oP') :: (Bd, oB) :: (Pr, listOf vs.toArray n) :: tl ∧ oP'.IsDictOf (PySem.strKind PR w) (d4 f') ∧ Ints f' (runD sg B V ps).1) := by
  unfold Tells
  intro dp un gd cn cs ca ccd cl outer A₀ base h₀ L m s Q E Bw F X N T hcs hdp hun hret
  refine wpAny_call ?_
  k_dflt cell_enter
  k_steps
  rename_i F' N'
  obtain ⟨m₀, e0, F0⟩ := named F'
  refine For_invTF F0 ?_ (by intro _; rfl)
  refine ld F0 (v := .ref Pr) (by rw [e0]; rfl) ?_
  refine iter_pairs (l := Pr) (vs := vs) (n := n) (fun i m nx => ∃ oP' f', nx = (Pl, oP') :: (Bd, oB) :: (Pr, listOf vs.toArray n) :: tl ∧ oP'.IsDictOf (PySem.strKind PR w) (d4 f') ∧ Ints f' (runD sg B V (ps.take i)).1 ∧
    (∃ t, m (Str.ofString "word") = some (.str (word (runD sg B V (ps.take i)).2) t)) ∧ ∀ z, z ≠ Str.ofString "word" → z ≠ Str.ofString "one" → z ≠ Str.ofString "other" → z ≠ Str.ofString "units" → m z = 
     (fun z => if z = Str.ofString "plain" then some (.ref Pl) else if z = Str.ofString "bounds" then some (.ref Bd) else if z = Str.ofString "way" then some (.str way tw) else m₀ z) z) rfl F0 N' ?_ ?_ ?_ ?_
  · refine ⟨oP, f, rfl, hP, hf, ⟨_, by rw [e0]; rfl⟩, fun z h1 h2 h3 h4 => ?_⟩
    dsimp only
    by_cases a1 : z = Str.ofString "plain"
    · rw [if_pos a1, a1, e0]; rfl
    by_cases a2 : z = Str.ofString "bounds"
    · rw [if_neg a1, if_pos a2, a2, e0]; rfl
    by_cases a3 : z = Str.ofString "way"
    · rw [if_neg a1, if_neg a2, if_pos a3, a3, e0]; rfl
    rw [if_neg a1, if_neg a2, if_neg a3]
  · rintro i m nx ⟨oP', f', rfl, _⟩
    exact .tail _ (.tail _ (.head _))
  · rintro i v m₁ nx s₁ I oi hv hI ⟨oP', f', rfl, hP', hf', ⟨t, hwd⟩, hm⟩ F₁ N₁
    rw [map4 hwd hm] at F₁
    obtain ⟨x, y, a, t1, t2, hp, rfl, hpa, hx, hy⟩ := hps.get hv
    obtain ⟨tx, hfx⟩ := hf' x
    obtain ⟨ty, hfy⟩ := hf' y
    obtain ⟨tb, hgy⟩ := hg y
    rw [runD_take hp]
    have hPI : Pl ≠ I := hI (Pl, oP') (.head _)
    rcases hw with ⟨rfl, rfl⟩ | ⟨rfl, rfl⟩
    all_goals k_steps
    · rw [stepD_big (Int.one_mul _) (by assumption)]
      exact PlEnd.intro (by assumption) (by assumption) hI ⟨_, _, rfl, hP', hf', ⟨_, rfl⟩, fun z h1 h2 h3 h4 => by simp only [if_neg h1, if_neg h2, if_neg h3, if_neg h4]⟩
    · unfold Halt
      k_dflt (refine' kda_set (knd := PySem.strKind _ _) (kvs := d4 _) ?F ?N ?U ?d (strKind_is _ _ _ _) ?z ?_)
      case F => k_asm
      case N => k_asm
      case U => first | k_updF | fail "x"
      case d => k_asm
      case z => first | rw [sizeLine_eq]; exact Nat.le_of_ble_eq_true (by with_unfolding_all rfl) | fail "x"
      intro h' o' F' N' hd'
      try dsimp only at N'
      rw [d4_put (by assumption)] at hd'
      k_steps
      rw [stepD_small (Int.one_mul _) (by assumption)]
      exact PlEnd.intro (by assumption) (by assumption) (off_head hI) ⟨_, _, rfl, by assumption, hf'.put _ _ _, ⟨_, rfl⟩, fun z h1 h2 h3 h4 => by simp only [if_neg h1, if_neg h2, if_neg h3, if_neg h4]⟩
    · rw [stepD_big (neg_one _) (by assumption)]
      exact PlEnd.intro (by assumption) (by assumption) hI ⟨_, _, rfl, hP', hf', ⟨_, rfl⟩, fun z h1 h2 h3 h4 => by simp only [if_neg h1, if_neg h2, if_neg h3, if_neg h4]⟩
    · unfold Halt
      k_dflt (refine' kda_set (knd := PySem.strKind _ _) (kvs := d4 _) ?F ?N ?U ?d (strKind_is _ _ _ _) ?z ?_)
      case F => k_asm
      case N => k_asm
      case U => first | k_updF | fail "x"
      case d => k_asm
      case z => first | rw [sizeLine_eq]; exact Nat.le_of_ble_eq_true (by with_unfolding_all rfl) | fail "x"
      intro h' o' F' N' hd'
      try dsimp only at N'
      rw [d4_put (by assumption)] at hd'
      k_steps
      rw [stepD_small (neg_one _) (by assumption)]
      exact PlEnd.intro (by assumption) (by assumption) (off_head hI) ⟨_, _, rfl, by assumption, hf'.put _ _ _, ⟨_, rfl⟩, fun z h1 h2 h3 h4 => by simp only [if_neg h1, if_neg h2, if_neg h3, if_neg h4]⟩
  · rintro m₁ nx h tk ⟨oP', f', rfl, hP', hf', ⟨t, hwd⟩, hm⟩ F₁ N₁
    rw [hps.length, List.take_length] at hwd hf'
    rw [map4 hwd hm] at F₁
    k_steps
    exact hret _ _ _ _ (by assumption) (by assumption) ⟨_, _, _, rfl, rfl, hP', hf'⟩
end
section
open PySem PySem.W PyProof.Rows

noncomputable def Marked (P : Prop) : Prop := P
theorem stop_here {P : Prop} (h : Marked P) : P := h
theorem stopCall {M : Model} {A : Around} {f : Addr} {vs : List Value} {Q E : Value → Shared → Prop} {s : Shared} (h : Marked (wpAny M A (call (.ref f) vs) Q E s)) : wpAny M A (call (.ref f) vs) Q E s := h

noncomputable def TellsC (w : World) (p : Program) (loose : List Str) (mean : ExcName → Option Value) (mg mb : Str → Option Value) (f : Addr) (vs : List Value) (news : Led) (dd uu : Nat) (Ret : Value → Led → Prop) : Prop :=
  ∀ (dp un : Nat) (gd : Option (List Code)) (cn : Str) (cs : Scope) (a : Addr) (ccd : Value) (cl : List (Str × Addr)) (outer : List Env) (A₀ : Around) (base h₀ : Heap) (L : Addr) (m : Str → Option Value) (s : Shared) (Q E : Value → Shared → Prop),
    Below A₀ base outer h₀ → Fr h₀ L s.heap m → (hd.heap_39 w.params).In h₀ → News h₀ L s.heap news → Top p loose mean mg mb h₀ → cs.kind = .function → CodeHd base 154 150 →
    dp + dd < recursionLimit → un + uu < cLine →
    (∀ r h' tk' news', Fr h₀ L h' m → News h₀ L h' news' → Ret r news' → Q r { s with heap := h', toks := tk' }) →
    wpAny (model PR w) (ktrTop dp un gd cn cs L a ccd cl outer) (call (.ref f) vs) Q E s

theorem News.sub {h₀ h : Heap} {L : Addr} {a b : Led} (N : News h₀ L h a) (hs : ∀ p ∈ b, p ∈ a) : News h₀ L h b := fun p hp => N p (hs p hp)
theorem DecAt.mono {a b : Led} {d : Addr} {U : Int} (hs : ∀ p ∈ a, p ∈ b) (h : DecAt a d U) : DecAt b d U := by
  obtain ⟨u, s, t1, t2, h1, h2⟩ := h
  exact ⟨u, s, t1, t2, hs _ h1, h2⟩
theorem DecAt.to {a b : Led} {d : Addr} {U : Int} (h : DecAt a d U) (hs : ∀ p ∈ a, p ∈ b) : DecAt b d U := h.mono hs
noncomputable def HeldAt (tl : Led) (f : Str → Value) (V : Str → Int) : Prop := ∀ x, isNm x → ∃ a, f x = .ref a ∧ DecAt tl a (V x)
theorem HeldAt.mono {a b : Led} {f : Str → Value} {V : Str → Int} (hs : ∀ p ∈ a, p ∈ b) (h : HeldAt a f V) : HeldAt b f V := fun x hx => by
  obtain ⟨c, e, d⟩ := h x hx
  exact ⟨c, e, d.mono hs⟩
theorem HeldAt.put {tl : Led} {f : Str → Value} {V : Str → Int} {x : Str} {a : Addr} {U : Int} (h : HeldAt tl f V) (d : DecAt tl a U) : HeldAt tl (put f x (.ref a)) (put V x U) := fun y hy => by
  unfold Mine.put
  by_cases e : y = x
  · rw [if_pos e, if_pos e]; exact ⟨a, rfl, d⟩
  · rw [if_neg e, if_neg e]; exact h y hy
noncomputable def AskAre (news : Led) : List Value → List (Str × Bool) → Prop
  | [], [] => True
  | v :: vs, p :: ps => (∃ a t1, v = .ref a ∧ (a, iTup [.str p.1 t1, .bool p.2]) ∈ news) ∧ AskAre news vs ps
  | _, _ => False
theorem AskAre.length {news : Led} : ∀ {vs : List Value} {ps : List (Str × Bool)}, AskAre news vs ps → vs.length = ps.length
  | [], [], _ => rfl
  | _ :: _, _ :: _, h => by rw [List.length_cons, List.length_cons, h.2.length]
theorem AskAre.mono {news news' : Led} (hs : ∀ p ∈ news, p ∈ news') : ∀ {vs : List Value} {ps : List (Str × Bool)}, AskAre news vs ps → AskAre news' vs ps
  | [], [], _ => trivial
  | _ :: _, _ :: _, h => by
    obtain ⟨⟨a, t1, h1, h2⟩, h4⟩ := h
    exact ⟨⟨a, t1, h1, hs _ h2⟩, h4.mono hs⟩
theorem AskAre.append {news : Led} {a : Addr} {t : Tok} {x : Str} {b : Bool} (hm : (a, iTup [.str x t, .bool b]) ∈ news) : ∀ {vs : List Value} {ps : List (Str × Bool)}, AskAre news vs ps → AskAre news (vs ++ [.ref a]) (ps ++ [(x, b)])
  | [], [], _ => ⟨⟨a, t, rfl, hm⟩, trivial⟩
  | _ :: _, _ :: _, h => ⟨h.1, h.2.append hm⟩

theorem map3 {m m₁ : Str → Option Value} {a b c : Str} {v : Value} (h : m a = some v) (hm : ∀ z, z ≠ a → z ≠ b → z ≠ c → m z = m₁ z) :
    m = fun z => if z = a then some v else if z = b then m b else if z = c then m c else m₁ z := by
  funext z
  by_cases h1 : z = a
  · rw [if_pos h1, h1, h]
  rw [if_neg h1]
  by_cases h2 : z = b
  · rw [if_pos h2, h2]
  rw [if_neg h2]
  by_cases h3 : z = c
  · rw [if_pos h3, h3]
  rw [if_neg h3]
  exact hm z h1 h2 h3

structure RunP where
  w : World
  pre : Led
  tl : Led
  H : Addr
  Bd : Addr
  Pr : Addr
  As : Addr
  oB : Obj
  vs : List Value
  n : Nat
  V : Str → Int
  B : Str → Int
  sg : Int
  ps : List (Str × Str)
  ask0 : List (Str × Bool)
  rd : Bool
  m₀ : Str → Option Value
noncomputable abbrev RunP.led (r : RunP) (oH : Obj) (asked : List Value) (na : Nat) (tl : Led) : Led := r.pre ++ (r.H, oH) :: (r.Bd, r.oB) :: (r.Pr, listOf r.vs.toArray r.n) :: (r.As, listOf asked.toArray na) :: tl
noncomputable def RunP.off (r : RunP) (tl : Led) : Prop := ∀ p ∈ tl, p.1 ≠ r.H ∧ p.1 ≠ r.As ∧ p.1 ≠ 150
noncomputable abbrev RunP.st (r : RunP) (i : Nat) : (Str → Int) × Bool := runD r.sg r.B r.V (r.ps.take i)
noncomputable abbrev RunP.ask (r : RunP) (i : Nat) : List (Str × Bool) := r.ask0 ++ (r.ps.take i).map fun p => (p.2, r.rd)
noncomputable def RunP.J (r : RunP) (i : Nat) (m : Str → Option Value) (nx : Led) : Prop :=
  ∃ oH f asked na tl, nx = r.led oH asked na tl ∧ oH.IsDictOf (PySem.strKind PR r.w) (d4 f) ∧ HeldAt tl f (r.st i).1 ∧ AskAre tl asked (r.ask i) ∧ (∀ p ∈ r.tl, p ∈ tl) ∧ r.off tl ∧
    (∃ t, m (Str.ofString "found") = some (.str (word (r.st i).2) t)) ∧ ∀ z, z ≠ Str.ofString "found" → z ≠ Str.ofString "begin" → z ≠ Str.ofString "there" → m z = r.m₀ z

theorem append_L {prog : Program} {w : World} {A : Around} {E : Value → Shared → Prop} {s : Shared} {h₀ : Heap} {L D : Addr} {m : Str → Option Value} {news news' : Led} {its : List Value} {n : Nat} {x : Value} {Q : Value → Shared → Prop} (F : Fr h₀ L s.heap m) (N : News h₀ L s.heap news) (U : Upd D (listOf its.toArray n) (listOf (its ++ [x]).toArray (n + 1)) news news')
    (hz : its.length ≤ 1000) (h : ∀ h', Fr h₀ L h' m → News h₀ L h' news' → Q .none { s with heap := h' }) : wpAny (model prog w) A (call (.builtin "list.append") [.ref D, x]) Q E s :=
  append_K F N (by rw [List.push_toArray]; exact U) h (by rw [List.size_toArray, sizeLine_eq]; omega)

theorem run_iter (r : RunP) {A : Around} {E : Value → Shared → Prop} {s : Shared} {env : Env} {h₀ : Heap} {target : Expr} {body : List Stmt} {Q : Flow → Shared → Prop} {oH : Obj} {f : Str → Value} {asked : List Value} {na : Nat}
    (hh : A.handled = none) (F : Fr h₀ env.locals s.heap r.m₀) (N : News h₀ env.locals s.heap (r.led oH asked na r.tl))
    (hH : oH.IsDictOf (PySem.strKind PR r.w) (d4 f)) (hf : HeldAt r.tl f r.V) (ha : AskAre r.tl asked r.ask0) (hps : PairsAre r.tl r.vs r.ps) (ho : r.off r.tl) (hl : r.ask0.length ≤ 50) (hlp : r.ps.length ≤ 50)
    (hm : ∃ t, r.m₀ (Str.ofString "found") = some (.str (word false) t))
    (turn : ∀ i x y a t1 t2 oH f asked na tl tf uA uB s₁ I oi, r.ps[i]? = some (x, y) → (∀ p ∈ r.led oH asked na tl, p.1 ≠ I) → isNm x → isNm y → (a, iTup [.str x t1, .str y t2]) ∈ tl →
      oH.IsDictOf (PySem.strKind PR r.w) (d4 f) → HeldAt tl f (r.st i).1 → AskAre tl asked (r.ask i) → asked.length ≤ 1000 → (∀ p ∈ r.tl, p ∈ tl) → r.off tl →
      Fr h₀ env.locals s₁.heap (fun z => if z = Str.ofString "found" then some (.str (word (r.st i).2) tf) else if z = Str.ofString "begin" then uA else if z = Str.ofString "there" then uB else r.m₀ z) →
      News h₀ env.locals s₁.heap ((I, oi) :: r.led oH asked na tl) →
      wpAny (model PR r.w) A (assign target env (.ref a)) (fun _ s₃ => wpAny (model PR r.w) A (execs body env) (PlEnd h₀ env.locals (r.J (i + 1)) I oi s₁) E s₃) E s₁)
    (done : ∀ oH f asked na tl tf uA uB h tk, oH.IsDictOf (PySem.strKind PR r.w) (d4 f) → HeldAt tl f (runD r.sg r.B r.V r.ps).1 → AskAre tl asked (r.ask0 ++ r.ps.map fun p => (p.2, r.rd)) → (∀ p ∈ r.tl, p ∈ tl) → r.off tl →
      Fr h₀ env.locals h (fun z => if z = Str.ofString "found" then some (.str (word (runD r.sg r.B r.V r.ps).2) tf) else if z = Str.ofString "begin" then uA else if z = Str.ofString "there" then uB else r.m₀ z) →
      News h₀ env.locals h (r.led oH asked na tl) → Q .next { s with heap := h, toks := tk }) :
    wpAny (model PR r.w) A (pyIter (.ref r.Pr)) (fun it s₂ => LoopAtT PR r.w A h₀ env target body Q E it s₂) E s := by
  refine iter_pairs (l := r.Pr) (vs := r.vs) (n := r.n) r.J hh F N ⟨oH, f, asked, na, r.tl, rfl, hH, hf, by simpa [RunP.ask] using ha, fun _ h => h, ho, hm, fun _ _ _ _ => rfl⟩ ?_ ?_ ?_
  · rintro i m nx ⟨oH, f, asked, na, tl, rfl, _⟩
    exact List.mem_append.mpr (.inr (.tail _ (.tail _ (.head _))))
  · rintro i v m₁ nx s₁ I oi hv hI ⟨oH, f, asked, na, tl, rfl, h1, h2, h3, h4, h5, ⟨t, h6⟩, h7⟩ F₁ N₁
    rw [map3 h6 h7] at F₁
    obtain ⟨x, y, a, t1, t2, hp, rfl, hpa, hx, hy⟩ := hps.get hv
    refine turn i x y a t1 t2 oH f asked na tl t _ _ s₁ I oi hp hI hx hy (h4 _ hpa) h1 h2 h3 ?_ h4 h5 F₁ N₁
    rw [h3.length, RunP.ask, List.length_append, List.length_map, List.length_take]
    omega
  · rintro m₁ nx h tk ⟨oH, f, asked, na, tl, rfl, h1, h2, h3, h4, h5, ⟨t, h6⟩, h7⟩ F₁ N₁
    rw [hps.length] at h2 h3 h6
    rw [map3 h6 h7] at F₁
    simp only [RunP.st, RunP.ask, List.take_length] at h2 h3 F₁
    exact done oH f asked na tl t _ _ h tk h1 h2 h3 h4 h5 F₁ N₁

theorem dec_abs {u s U : Int} (d : isDec u s U) (b : Int) : (b * p10 s < (if u < 0 then -u else u)) ↔ (b * p10 6 < (if U < 0 then -U else U)) := by
  obtain ⟨h0, h1, e⟩ := d
  have e6 : p10 6 = p10 s * p10 (6 - s) := by rw [← p10_add h0 (by omega)]; congr 1; omega
  have hp := p10_pos (6 - s)
  have hU : (if U < 0 then -U else U) = (if u < 0 then -u else u) * p10 (6 - s) := by
    by_cases hu : u < 0
    · have : U < 0 := by rw [← e]; exact Int.mul_neg_of_neg_of_pos hu hp
      rw [if_pos this, if_pos hu, ← e, Int.neg_mul]
    · have : ¬ U < 0 := by rw [← e]; exact Int.not_lt.mpr (Int.mul_nonneg (Int.not_lt.mp hu) (Int.le_of_lt hp))
      rw [if_neg this, if_neg hu, ← e]
  rw [hU, e6, ← Int.mul_assoc]
  exact ⟨fun h => Int.mul_lt_mul_of_pos_right h hp, fun h => Int.lt_of_mul_lt_mul_right h (Int.le_of_lt hp)⟩
theorem RunP.st_succ (r : RunP) {i : Nat} {x y : Str} (h : r.ps[i]? = some (x, y)) : r.st (i + 1) = stepD r.sg r.B (r.st i) (x, y) := runD_take h
theorem RunP.ask_succ (r : RunP) {i : Nat} {x y : Str} (h : r.ps[i]? = some (x, y)) : r.ask (i + 1) = r.ask i ++ [(y, r.rd)] := by
  unfold RunP.ask
  rw [List.take_add_one, h, List.map_append, List.append_assoc]
  rfl

theorem asub {a : Addr × Obj} {tl news : Led} (h1 : a ∈ news) (h2 : ∀ p ∈ tl, p ∈ news) : ∀ p ∈ (a :: tl : Led), p ∈ news := fun p hp => by
  rcases List.mem_cons.mp hp with rfl | hp
  · exact h1
  · exact h2 p hp
theorem asubA {pre tl news : Led} (h1 : ∀ p ∈ pre, p ∈ news) (h2 : ∀ p ∈ tl, p ∈ news) : ∀ p ∈ (pre ++ tl : Led), p ∈ news := fun p hp => (List.mem_append.mp hp).elim (h1 p) (h2 p)
theorem aoff {x : Addr} {a : Addr × Obj} {tl : Led} (h1 : a.1 ≠ x) (h2 : ∀ p ∈ tl, p.1 ≠ x) : ∀ p ∈ (a :: tl : Led), p.1 ≠ x := fun p hp => by
  rcases List.mem_cons.mp hp with rfl | hp
  · exact h1
  · exact h2 p hp
theorem aoffA {x : Addr} {pre tl : Led} (h1 : ∀ p ∈ pre, p.1 ≠ x) (h2 : ∀ p ∈ tl, p.1 ≠ x) : ∀ p ∈ (pre ++ tl : Led), p.1 ≠ x := fun p hp => (List.mem_append.mp hp).elim (h1 p) (h2 p)
theorem inA {a : Addr × Obj} {x y z : Addr × Obj} {pre tl : Led} (h : a ∈ tl) : a ∈ (x :: y :: z :: (pre ++ tl) : Led) := .tail _ (.tail _ (.tail _ (List.mem_append.mpr (.inr h))))
theorem RunP.end (r : RunP) {i : Nat} {x y : Str} {oH : Obj} {f : Str → Value} {asked : List Value} {na : Nat} {tl : Led} {D c I L : Addr} {t : Tok} {oc oi oH0 : Obj} {h₀ h' : Heap} {s₁ : Shared} {tk : Nat} {m' : Str → Option Value}
    (F : Fr h₀ L h' m') (N : News h₀ L h' ((D, iTup [.str y t, .bool r.rd]) :: (c, oc) :: (I, oi) :: r.led oH (asked ++ [.ref D]) (na + 1) tl))
    (hI : ∀ p ∈ r.led oH0 asked na tl, p.1 ≠ I) (hp : r.ps[i]? = some (x, y)) (hH : oH.IsDictOf (PySem.strKind PR r.w) (d4 f)) (hf : HeldAt ((D, iTup [.str y t, .bool r.rd]) :: (c, oc) :: tl) f (r.st (i + 1)).1)
    (ha : AskAre tl asked (r.ask i)) (hs : ∀ p ∈ r.tl, p ∈ tl) (ho : r.off tl)
    (d1 : @LT.lt Nat _ r.H D) (d2 : @LT.lt Nat _ r.As D) (d3 : @LT.lt Nat _ 150 D) (d4' : @Ne Nat D I) (c1 : @LT.lt Nat _ r.H c) (c2 : @LT.lt Nat _ r.As c) (c3 : @LT.lt Nat _ 150 c) (c4 : @Ne Nat c I)
    (hm : ∃ t, m' (Str.ofString "found") = some (.str (word (r.st (i + 1)).2) t)) (hz : ∀ z, z ≠ Str.ofString "found" → z ≠ Str.ofString "begin" → z ≠ Str.ofString "there" → m' z = r.m₀ z) :
    PlEnd h₀ L (r.J (i + 1)) I oi s₁ .next { s₁ with heap := h', toks := tk } := by
  refine PlEnd.intro (nx := r.led oH (asked ++ [.ref D]) (na + 1) ((D, iTup [.str y t, .bool r.rd]) :: (c, oc) :: tl)) F (News.sub N ?_) ?_ ⟨oH, f, _, _, _, rfl, hH, hf, ?_, fun p hp => .tail _ (.tail _ (hs p hp)), fun p hp => ?_, hm, hz⟩
  · exact asub (.tail _ (.tail _ (.head _))) (asubA (fun p h => .tail _ (.tail _ (.tail _ (List.mem_append.mpr (.inl h))))) (asub (inA (.head _)) (asub (inA (.tail _ (.head _))) (asub (inA (.tail _ (.tail _ (.head _)))) (asub (inA (.tail _ (.tail _ (.tail _ (.head _))))) (asub (.head _) (asub (.tail _ (.head _)) (fun p h => inA (.tail _ (.tail _ (.tail _ (.tail _ h))))))))))))
  · exact aoffA (fun p h => hI p (List.mem_append.mpr (.inl h))) (aoff (hI (r.H, oH0) (List.mem_append.mpr (.inr (.head _)))) (aoff (hI (r.Bd, r.oB) (List.mem_append.mpr (.inr (.tail _ (.head _))))) (aoff (hI (r.Pr, listOf r.vs.toArray r.n) (List.mem_append.mpr (.inr (.tail _ (.tail _ (.head _)))))) (aoff (hI (r.As, listOf asked.toArray na) (List.mem_append.mpr (.inr (.tail _ (.tail _ (.tail _ (.head _))))))) (aoff d4' (aoff c4 (fun p h => hI p (List.mem_append.mpr (.inr (.tail _ (.tail _ (.tail _ (.tail _ h)))))))))))))
  · rw [r.ask_succ hp]
    exact (ha.mono fun p hp => .tail _ (.tail _ hp)).append (.head _)
  · rcases List.mem_cons.mp hp with rfl | hp
    · exact ⟨Nat.ne_of_gt d1, Nat.ne_of_gt d2, Nat.ne_of_gt d3⟩
    · rcases List.mem_cons.mp hp with rfl | hp
      · exact ⟨Nat.ne_of_gt c1, Nat.ne_of_gt c2, Nat.ne_of_gt c3⟩
      · exact ho p hp
theorem RunP.st_big (r : RunP) {i : Nat} {x y : Str} {u s : Int} (hp : r.ps[i]? = some (x, y)) (d : isDec u s ((r.st i).1 y + r.sg * (r.st i).1 x)) (h : r.B y * p10 s < (if u < 0 then -u else u)) : r.st (i + 1) = ((r.st i).1, true) := by
  rw [r.st_succ hp]
  exact stepD_big rfl ((dec_abs d _).mp h)
theorem RunP.st_small (r : RunP) {i : Nat} {x y : Str} {u s : Int} (hp : r.ps[i]? = some (x, y)) (d : isDec u s ((r.st i).1 y + r.sg * (r.st i).1 x)) (h : ¬ r.B y * p10 s < (if u < 0 then -u else u)) :
    r.st (i + 1) = (put (r.st i).1 y ((r.st i).1 y + r.sg * (r.st i).1 x), (r.st i).2) := by
  rw [r.st_succ hp]
  exact stepD_small rfl fun q => h ((dec_abs d _).mpr q)
theorem RunP.end_big (r : RunP) {i : Nat} {x y : Str} {oH : Obj} {f : Str → Value} {asked : List Value} {na : Nat} {tl : Led} {D c I L : Addr} {t t1 t2 : Tok} {u s : Int} {oi : Obj} {h₀ h' : Heap} {s₁ : Shared} {tk : Nat} {m' : Str → Option Value}
    (F : Fr h₀ L h' m') (N : News h₀ L h' ((D, iTup [.str y t, .bool r.rd]) :: (c, iTup [.int u t1, .int s t2]) :: (I, oi) :: r.led oH (asked ++ [.ref D]) (na + 1) tl))
    (hI : ∀ p ∈ r.led oH asked na tl, p.1 ≠ I) (hp : r.ps[i]? = some (x, y)) (hH : oH.IsDictOf (PySem.strKind PR r.w) (d4 f)) (hf : HeldAt tl f (r.st i).1)
    (ha : AskAre tl asked (r.ask i)) (hs : ∀ p ∈ r.tl, p ∈ tl) (ho : r.off tl) (d : isDec u s ((r.st i).1 y + r.sg * (r.st i).1 x)) (hc : r.B y * p10 s < (if u < 0 then -u else u))
    (d1 : @LT.lt Nat _ r.H D) (d2 : @LT.lt Nat _ r.As D) (d3 : @LT.lt Nat _ 150 D) (d4' : @Ne Nat D I) (c1 : @LT.lt Nat _ r.H c) (c2 : @LT.lt Nat _ r.As c) (c3 : @LT.lt Nat _ 150 c) (c4 : @Ne Nat c I)
    (hm : ∃ t, m' (Str.ofString "found") = some (.str (word true) t)) (hz : ∀ z, z ≠ Str.ofString "found" → z ≠ Str.ofString "begin" → z ≠ Str.ofString "there" → m' z = r.m₀ z) :
    PlEnd h₀ L (r.J (i + 1)) I oi s₁ .next { s₁ with heap := h', toks := tk } :=
  r.end F N hI hp hH (by rw [r.st_big hp d hc]; exact hf.mono fun p hp => .tail _ (.tail _ hp)) ha hs ho d1 d2 d3 d4' c1 c2 c3 c4 (by rw [r.st_big hp d hc]; exact hm) hz
theorem RunP.end_small (r : RunP) {i : Nat} {x y : Str} {oH oH0 : Obj} {f : Str → Value} {asked : List Value} {na : Nat} {tl : Led} {D c I L : Addr} {t t1 t2 : Tok} {u s : Int} {oi : Obj} {h₀ h' : Heap} {s₁ : Shared} {tk : Nat} {m' : Str → Option Value}
    (F : Fr h₀ L h' m') (N : News h₀ L h' ((D, iTup [.str y t, .bool r.rd]) :: (c, iTup [.int u t1, .int s t2]) :: (I, oi) :: r.led oH (asked ++ [.ref D]) (na + 1) tl))
    (hI : ∀ p ∈ r.led oH0 asked na tl, p.1 ≠ I) (hp : r.ps[i]? = some (x, y)) (hH : oH.IsDictOf (PySem.strKind PR r.w) (d4 (put f y (.ref c)))) (hf : HeldAt tl f (r.st i).1)
    (ha : AskAre tl asked (r.ask i)) (hs : ∀ p ∈ r.tl, p ∈ tl) (ho : r.off tl) (d : isDec u s ((r.st i).1 y + r.sg * (r.st i).1 x)) (hc : ¬ r.B y * p10 s < (if u < 0 then -u else u))
    (d1 : @LT.lt Nat _ r.H D) (d2 : @LT.lt Nat _ r.As D) (d3 : @LT.lt Nat _ 150 D) (d4' : @Ne Nat D I) (c1 : @LT.lt Nat _ r.H c) (c2 : @LT.lt Nat _ r.As c) (c3 : @LT.lt Nat _ 150 c) (c4 : @Ne Nat c I)
    (hm : ∃ t, m' (Str.ofString "found") = some (.str (word (r.st i).2) t)) (hz : ∀ z, z ≠ Str.ofString "found" → z ≠ Str.ofString "begin" → z ≠ Str.ofString "there" → m' z = r.m₀ z) :
    PlEnd h₀ L (r.J (i + 1)) I oi s₁ .next { s₁ with heap := h', toks := tk } :=
  r.end F N hI hp hH (by rw [r.st_small hp d hc]; exact (hf.mono fun p hp => .tail _ (.tail _ hp)).put ⟨_, _, _, _, .tail _ (.head _), d⟩) ha hs ho d1 d2 d3 d4' c1 c2 c3 c4 (by rw [r.st_small hp d hc]; exact hm) hz

noncomputable def codeN (qn : Str) (o : Obj) : Prop := ∃ vs t, o.data = .fields vs ∧ vs[1]? = some (.str qn t)
theorem codeN_of {q q' : Str} {t : Tok} {o : Obj} {vs : Array Value} (h1 : o.data = .fields vs) (h2 : vs[1]? = some (.str q t)) (e : q = q') : codeN q' o := ⟨vs, t, h1, e ▸ h2⟩
noncomputable def TabDone (TS : Array Value) (tl : Led) : Prop := ∃ c1 c2 o1 o2, TS = #[rawInt 82, rawInt 4, Value.ref c1, rawInt 88, rawInt 45, Value.ref c2] ∧ (c1, o1) ∈ tl ∧ (c2, o2) ∈ tl ∧ codeN (Str.ofString "_law_run.<locals>.keep") o1 ∧ codeN (Str.ofString "_law_run.<locals>.<lambda>") o2

noncomputable def RunRet (H Bd Pr As : Addr) (oB : Obj) (V B : Str → Int) (vs : List Value) (n : Nat) (ask0 : List (Str × Bool)) (ps : List (Str × Str)) (sg : Int) (rd : Bool) (w : World) (tl : Led) (r : Value) (news' : Led) : Prop :=
  ∃ TS oH f asked na tl' tk, r = .str (word (runD sg B V ps).2) tk ∧ news' = (150, tabObj TS) :: (H, oH) :: (Bd, oB) :: (Pr, listOf vs.toArray n) :: (As, listOf asked.toArray na) :: tl' ∧ TabDone TS tl' ∧ oH.IsDictOf (PySem.strKind PR w) (d4 f) ∧
    HeldAt tl' f (runD sg B V ps).1 ∧ AskAre tl' asked (ask0 ++ ps.map fun p => (p.2, rd)) ∧ (∀ p ∈ tl, p ∈ tl') ∧ ∀ p ∈ tl', p.1 ≠ H ∧ p.1 ≠ As ∧ p.1 ≠ 150
theorem run_ret1 {H Bd Pr As : Addr} {oB : Obj} {V B : Str → Int} {vs : List Value} {n : Nat} {ask0 : List (Str × Bool)} {ps : List (Str × Str)} {sg : Int} {rd : Bool} {w : World} {tl : Led} {h₀ h : Heap} {L : Addr} {m : Str → Option Value}
    {s : Shared} {Q : Value → Shared → Prop} {TS : Array Value} {oH : Obj} {f : Str → Value} {asked : List Value} {na : Nat} {tl' : Led} {tk : Nat} {t ta tb : Tok} {fL fK c1 c2 b1 b2 b3 : Addr} {oL oK o1 o2 x1 x2 x3 : Obj} {va vb : Array Value} {qa qb : Str}
    (hret : ∀ r h' tk' news', Fr h₀ L h' m → News h₀ L h' news' → RunRet H Bd Pr As oB V B vs n ask0 ps sg rd w tl r news' → Q r { s with heap := h', toks := tk' })
    (F : Fr h₀ L h m) (N : News h₀ L h ((fL, oL) :: (c2, o2) :: (fK, oK) :: (c1, o1) :: (b1, x1) :: (b2, x2) :: (b3, x3) :: (150, tabObj TS) :: (H, oH) :: (Bd, oB) :: (Pr, listOf vs.toArray n) :: (As, listOf asked.toArray na) :: tl'))
    (hT : TS = #[rawInt 82, rawInt 4, Value.ref c1, rawInt 88, rawInt 45, Value.ref c2]) (da : o1.data = .fields va) (db : o2.data = .fields vb) (ea : va[1]? = some (.str qa ta)) (eb : vb[1]? = some (.str qb tb)) (eqa : qa = Str.ofString "_law_run.<locals>.keep") (eqb : qb = Str.ofString "_law_run.<locals>.<lambda>")
    (hH : oH.IsDictOf (PySem.strKind PR w) (d4 f)) (hf : HeldAt tl' f (runD sg B V ps).1) (ha : AskAre tl' asked (ask0 ++ ps.map fun p => (p.2, rd))) (hs : ∀ p ∈ tl, p ∈ tl') (ho : ∀ p ∈ tl', p.1 ≠ H ∧ p.1 ≠ As ∧ p.1 ≠ 150)
    (d1 : @LT.lt Nat _ H c1) (d2 : @LT.lt Nat _ As c1) (d3 : @LT.lt Nat _ 150 c1) (d4' : @LT.lt Nat _ H c2) (d5 : @LT.lt Nat _ As c2) (d6 : @LT.lt Nat _ 150 c2) :
    Q (.str (word (runD sg B V ps).2) t) { s with heap := h, toks := tk } := by
  have sub2 : ∀ p ∈ tl', p ∈ (c1, o1) :: (c2, o2) :: tl' := fun p hp => .tail _ (.tail _ hp)
  refine hret _ _ _ ((150, tabObj TS) :: (H, oH) :: (Bd, oB) :: (Pr, listOf vs.toArray n) :: (As, listOf asked.toArray na) :: (c1, o1) :: (c2, o2) :: tl') F (News.sub N (asub (.tail _ (.tail _ (.tail _ (.tail _ (.tail _ (.tail _ (.tail _ (.head _)))))))) (asub (.tail _ (.tail _ (.tail _ (.tail _ (.tail _ (.tail _ (.tail _ (.tail _ (.head _))))))))) (asub (.tail _ (.tail _ (.tail _ (.tail _ (.tail _ (.tail _ (.tail _ (.tail _ (.tail _ (.head _)))))))))) (asub (.tail _ (.tail _ (.tail _ (.tail _ (.tail _ (.tail _ (.tail _ (.tail _ (.tail _ (.tail _ (.head _))))))))))) (asub (.tail _ (.tail _ (.tail _ (.tail _ (.tail _ (.tail _ (.tail _ (.tail _ (.tail _ (.tail _ (.tail _ (.head _)))))))))))) (asub (.tail _ (.tail _ (.tail _ (.head _)))) (asub (.tail _ (.head _)) (fun p h => (.tail _ (.tail _ (.tail _ (.tail _ (.tail _ (.tail _ (.tail _ (.tail _ (.tail _ (.tail _ (.tail _ (.tail _ h)))))))))))))))))))))
    ⟨TS, oH, f, asked, na, _, t, rfl, rfl, ⟨c1, c2, o1, o2, hT, .head _, .tail _ (.head _), codeN_of da ea eqa, codeN_of db eb eqb⟩, hH, hf.mono sub2, ha.mono sub2, fun p hp => sub2 _ (hs p hp), fun p hp => ?_⟩
  · rcases List.mem_cons.mp hp with rfl | hp
    · exact ⟨Nat.ne_of_gt d1, Nat.ne_of_gt d2, Nat.ne_of_gt d3⟩
    · rcases List.mem_cons.mp hp with rfl | hp
      · exact ⟨Nat.ne_of_gt d4', Nat.ne_of_gt d5, Nat.ne_of_gt d6⟩
      · exact ho p hp
end
section
open PySem PySem.W PyProof.Rows
/-- a box, so that no try of the walk takes a hole for a fact -/
structure Box (P : Prop) : Prop where
  out : P
/-- a goal cut in two or three -/
structure Cut2 (G : Prop) where
  P : Prop
  Q : Prop
  by_ : Box P → Box Q → G
structure Cut3 (G : Prop) where
  P : Prop
  Q : Prop
  R : Prop
  by_ : Box P → Box Q → Box R → G
end
section
open PySem PySem.W PyProof.Rows
theorem off9 : True := by
  w_top off
  trivial
theorem fillK (_ : PySem.Challenge.rw_pb0227_01 = PySem.Challenge.rw_pb0227_01) (_ : hd.heap_39 = hd.heap_39) : PySem.Challenge.rw_pb0227_01 = PySem.Challenge.rw_pb0227_01 ∧ hd.heap_39 = hd.heap_39 := by
  k_fill
  exact ⟨rfl, rfl⟩
local macro_rules | `(tactic| walk_at "exec For Tuple Name cons nil") => `(tactic| (k_here; refine stop_here ?_))
theorem TabDone.mono {TS : Array Value} {a b : Led} (hs : ∀ p ∈ a, p ∈ b) (h : TabDone TS a) : TabDone TS b := by
  obtain ⟨c1, c2, o1, o2, e, h1, h2, h3⟩ := h
  exact ⟨c1, c2, o1, o2, e, hs _ h1, hs _ h2, h3⟩
theorem run_ret2 {H Bd Pr As : Addr} {oB : Obj} {V B : Str → Int} {vs : List Value} {n : Nat} {ask0 : List (Str × Bool)} {ps : List (Str × Str)} {sg : Int} {rd : Bool} {w : World} {tl : Led} {h₀ h : Heap} {L : Addr} {m : Str → Option Value}
    {s : Shared} {Q : Value → Shared → Prop} {TS : Array Value} {oH : Obj} {f : Str → Value} {asked : List Value} {na : Nat} {tl' : Led} {tk : Nat} {t : Tok} {fL fK b1 b2 b3 : Addr} {oL oK x1 x2 x3 : Obj}
    (hret : ∀ r h' tk' news', Fr h₀ L h' m → News h₀ L h' news' → RunRet H Bd Pr As oB V B vs n ask0 ps sg rd w tl r news' → Q r { s with heap := h', toks := tk' })
    (F : Fr h₀ L h m) (N : News h₀ L h ((fL, oL) :: (fK, oK) :: (b1, x1) :: (b2, x2) :: (b3, x3) :: (150, tabObj TS) :: (H, oH) :: (Bd, oB) :: (Pr, listOf vs.toArray n) :: (As, listOf asked.toArray na) :: tl'))
    (hT : TabDone TS tl)
    (hH : oH.IsDictOf (PySem.strKind PR w) (d4 f)) (hf : HeldAt tl' f (runD sg B V ps).1) (ha : AskAre tl' asked (ask0 ++ ps.map fun p => (p.2, rd))) (hs : ∀ p ∈ tl, p ∈ tl') (ho : ∀ p ∈ tl', p.1 ≠ H ∧ p.1 ≠ As ∧ p.1 ≠ 150) :
    Q (.str (word (runD sg B V ps).2) t) { s with heap := h, toks := tk } :=
  hret _ _ _ ((150, tabObj TS) :: (H, oH) :: (Bd, oB) :: (Pr, listOf vs.toArray n) :: (As, listOf asked.toArray na) :: tl') F (News.sub N fun _ hp => .tail _ (.tail _ (.tail _ (.tail _ (.tail _ hp)))))
    ⟨TS, oH, f, asked, na, _, t, rfl, rfl, hT.mono hs, hH, hf, ha, hs, ho⟩

noncomputable abbrev nF : Str := Str.ofString "found"
noncomputable abbrev nB : Str := Str.ofString "begin"
noncomputable abbrev nT : Str := Str.ofString "there"
noncomputable abbrev corrM (Pr fL fK : Addr) (way : Str) (tw : Tok) (rd : Bool) : Str → Option Value := fun z => List.lookup z [(Str.ofString "keep", .ref fK), (Str.ofString "number", .ref fL), (Str.ofString "is_rounded", .bool rd), (Str.ofString "way", .str way tw), (Str.ofString "pairs", .ref Pr)]
theorem m_clean {A B C : Option Value} {f g : Str → Option Value} (h : ∀ z, z ≠ nF → f z = g z) : (fun z => if z = nF then A else if z = nB then B else if z = nT then C else f z) = fun z => if z = nF then A else if z = nB then B else if z = nT then C else g z := by
  funext z
  by_cases e : z = nF
  · rw [if_pos e, if_pos e]
  · rw [if_neg e, if_neg e, h z e]
theorem offc {a x : Addr} {o : Obj} {tl : Led} (h1 : @Ne Nat a x) (h2 : ∀ p ∈ tl, p.1 ≠ x) : ∀ p ∈ ((a, o) :: tl : Led), p.1 ≠ x := fun p hp => by
  rcases List.mem_cons.mp hp with rfl | hp
  · exact h1
  · exact h2 p hp
theorem allsub {a : Addr × Obj} {tl news : Led} (h1 : a ∈ news) (h2 : ∀ p ∈ tl, p ∈ news) : ∀ p ∈ (a :: tl : Led), p ∈ news := fun p hp => by
  rcases List.mem_cons.mp hp with rfl | hp
  · exact h1
  · exact h2 p hp
/-- one turn of the loop of corr_with, whatever stands about it -/
noncomputable def TurnSpec (w : World) (p : Program) (loose : List Str) (mean : ExcName → Option Value) (mg mb : Str → Option Value) (cn : Str) (cs : Scope) (L a : Addr) (ccd : Value) (cl : List (Str × Addr)) (target : PySem.Expr) (env : Env) (body : List Stmt)
    (objs : Led) (fL fK H Bd Pr As : Addr) (way : Str) (tw : Tok) (rd : Bool) : Prop :=
  ∀ (rest : Led) (oH oB : Obj) (kvs kvsB : List (Str × Value)) (asked : List Value) (na : Nat) (x y : Str) (t1 t2 : Tok) (ad ax ay : Addr) (b : Int) (tb : Tok) (wd : Str) (tf : Tok) (uA uB : Option Value) (R : Int → Int → Prop)
    (dp un : Nat) (gd : Option (List Code)) (outer : List Env) (A₀ : Around) (base h₀ : Heap) (s : Shared) (Q : Flow → Shared → Prop) (E : Value → Shared → Prop),
    (∀ p ∈ objs, p ∈ rest) → (∀ p ∈ rest, p.1 ≠ H) → (∀ p ∈ rest, p.1 ≠ As) → H ≠ As → Bd ≠ H → Bd ≠ As → (ad, iTup [.str x t1, .str y t2]) ∈ rest → asked.length ≤ 1000 → kvs.length ≤ 1000 →
    oH.IsDictOf (PySem.strKind PR w) kvs → oB.IsDictOf (PySem.strKind PR w) kvsB → valueAt kvs x = some (.ref ax) → valueAt kvs y = some (.ref ay) → valueAt kvsB y = some (.int b tb) →
    (∀ u sc, R u sc → 0 ≤ sc ∧ sc ≤ 6) →
    (∀ news', (∀ p ∈ rest, p ∈ news') → Tells w p loose mean mg mb 134 [.str way tw, .ref ay, .ref ax] news' 3 24 (fun r n => ∃ (c : Addr) (u sc : Int) (k1 k2 : Tok), r = .ref c ∧ n = (c, iTup [.int u k1, .int sc k2]) :: news' ∧ R u sc ∧ ∀ p ∈ news', p.1 < c)) →
    Below A₀ base outer h₀ → Fr h₀ L s.heap (fun z => if z = nF then some (.str wd tf) else if z = nB then uA else if z = nT then uB else corrM Pr fL fK way tw rd z) → (hd.heap_39 w.params).In h₀ →
    News h₀ L s.heap ((H, oH) :: (Bd, oB) :: (As, listOf asked.toArray na) :: rest) → Top p loose mean mg mb h₀ → CodeHd base 154 150 → cs.kind = .function → dp + 6 < recursionLimit → un + 40 < cLine →
    (∀ (h' : Heap) (tk' : Nat) (m' : Str → Option Value) (c D : Addr) (u sc : Int) (k1 k2 td : Tok), R u sc → b * p10 sc < (if u < 0 then -u else u) → (@LT.lt Nat _ H c ∧ @LT.lt Nat _ As c ∧ AllLt c rest) → (@LT.lt Nat _ H D ∧ @LT.lt Nat _ As D ∧ @LT.lt Nat _ c D ∧ AllLt D rest) →
      Fr h₀ L h' m' → News h₀ L h' ((D, iTup [.str y td, .bool rd]) :: (c, iTup [.int u k1, .int sc k2]) :: (H, oH) :: (Bd, oB) :: (As, listOf (List.toArray (asked ++ [Value.ref D])) (na + 1)) :: rest) →
      (∃ t, m' nF = some (.str (Str.ofString "size") t)) → (∀ z, z ≠ nF → z ≠ nB → z ≠ nT → m' z = corrM Pr fL fK way tw rd z) → Q .next { s with heap := h', toks := tk' }) →
    (∀ (h' : Heap) (tk' : Nat) (m' : Str → Option Value) (c D : Addr) (u sc : Int) (k1 k2 td : Tok) (oH' : Obj), R u sc → ¬ b * p10 sc < (if u < 0 then -u else u) → (@LT.lt Nat _ H c ∧ @LT.lt Nat _ As c ∧ AllLt c rest) → (@LT.lt Nat _ H D ∧ @LT.lt Nat _ As D ∧ @LT.lt Nat _ c D ∧ AllLt D rest) →
      Fr h₀ L h' m' → News h₀ L h' ((D, iTup [.str y td, .bool rd]) :: (c, iTup [.int u k1, .int sc k2]) :: (H, oH') :: (Bd, oB) :: (As, listOf (List.toArray (asked ++ [Value.ref D])) (na + 1)) :: rest) →
      oH'.IsDictOf (PySem.strKind PR w) (stored kvs y (.ref c)) → (∃ t, m' nF = some (.str wd t)) → (∀ z, z ≠ nF → z ≠ nB → z ≠ nT → m' z = corrM Pr fL fK way tw rd z) → Q .next { s with heap := h', toks := tk' }) →
    wpAny (model PR w) (ktrTop dp un gd cn cs L a ccd cl outer) (assign target env (.ref ad)) (fun _ s₃ => wpAny (model PR w) (ktrTop dp un gd cn cs L a ccd cl outer) (execs body env) Q E s₃) E s
theorem reord6 {h₀ h : Heap} {L : Addr} {i f1 f2 e1 e2 e3 et H B P A : Addr × Obj} {tl : Led} (N : News h₀ L h (i :: f1 :: f2 :: e1 :: e2 :: e3 :: et :: H :: B :: P :: A :: tl)) :
    News h₀ L h (H :: B :: A :: i :: f1 :: f2 :: e1 :: e2 :: e3 :: et :: P :: tl) := News.sub N (allsub (.tail _ (.tail _ (.tail _ (.tail _ (.tail _ (.tail _ (.tail _ (.head _)))))))) (allsub (.tail _ (.tail _ (.tail _ (.tail _ (.tail _ (.tail _ (.tail _ (.tail _ (.head _))))))))) (allsub (.tail _ (.tail _ (.tail _ (.tail _ (.tail _ (.tail _ (.tail _ (.tail _ (.tail _ (.tail _ (.head _))))))))))) (allsub (.head _) (allsub (.tail _ (.head _)) (allsub (.tail _ (.tail _ (.head _))) (allsub (.tail _ (.tail _ (.tail _ (.head _)))) (allsub (.tail _ (.tail _ (.tail _ (.tail _ (.head _))))) (allsub (.tail _ (.tail _ (.tail _ (.tail _ (.tail _ (.head _)))))) (allsub (.tail _ (.tail _ (.tail _ (.tail _ (.tail _ (.tail _ (.head _))))))) (allsub (.tail _ (.tail _ (.tail _ (.tail _ (.tail _ (.tail _ (.tail _ (.tail _ (.tail _ (.head _)))))))))) (fun _ hp => (.tail _ (.tail _ (.tail _ (.tail _ (.tail _ (.tail _ (.tail _ (.tail _ (.tail _ (.tail _ (.tail _ hp)))))))))))))))))))))))
theorem reord6b {h₀ h : Heap} {L : Addr} {D c i f1 f2 e1 e2 e3 et H B P A : Addr × Obj} {tl : Led} (N : News h₀ L h (D :: c :: H :: B :: A :: i :: f1 :: f2 :: e1 :: e2 :: e3 :: et :: P :: tl)) :
    News h₀ L h (D :: c :: i :: f1 :: f2 :: e1 :: e2 :: e3 :: et :: H :: B :: P :: A :: tl) := News.sub N (allsub (.head _) (allsub (.tail _ (.head _)) (allsub (.tail _ (.tail _ (.tail _ (.tail _ (.tail _ (.head _)))))) (allsub (.tail _ (.tail _ (.tail _ (.tail _ (.tail _ (.tail _ (.head _))))))) (allsub (.tail _ (.tail _ (.tail _ (.tail _ (.tail _ (.tail _ (.tail _ (.head _)))))))) (allsub (.tail _ (.tail _ (.tail _ (.tail _ (.tail _ (.tail _ (.tail _ (.tail _ (.head _))))))))) (allsub (.tail _ (.tail _ (.tail _ (.tail _ (.tail _ (.tail _ (.tail _ (.tail _ (.tail _ (.head _)))))))))) (allsub (.tail _ (.tail _ (.tail _ (.tail _ (.tail _ (.tail _ (.tail _ (.tail _ (.tail _ (.tail _ (.head _))))))))))) (allsub (.tail _ (.tail _ (.tail _ (.tail _ (.tail _ (.tail _ (.tail _ (.tail _ (.tail _ (.tail _ (.tail _ (.head _)))))))))))) (allsub (.tail _ (.tail _ (.head _))) (allsub (.tail _ (.tail _ (.tail _ (.head _)))) (allsub (.tail _ (.tail _ (.tail _ (.tail _ (.tail _ (.tail _ (.tail _ (.tail _ (.tail _ (.tail _ (.tail _ (.tail _ (.head _))))))))))))) (allsub (.tail _ (.tail _ (.tail _ (.tail _ (.head _))))) (fun _ hp => (.tail _ (.tail _ (.tail _ (.tail _ (.tail _ (.tail _ (.tail _ (.tail _ (.tail _ (.tail _ (.tail _ (.tail _ (.tail _ hp)))))))))))))))))))))))))))
theorem F_clean {h₀ hp : Heap} {L : Addr} {H B A i : Addr × Obj} {fL fK Pr : Addr} {oL oK : Obj} {rest : Led} {a b c : Option Value} {f : Str → Option Value} {way : Str} {tw : Tok} {rd : Bool} (_ : News h₀ L hp (H :: B :: A :: i :: (fL, oL) :: (fK, oK) :: rest))
    (F : Fr h₀ L hp (fun z => if z = nF then a else if z = nB then b else if z = nT then c else f z)) (h : ∀ z, z ≠ nF → f z = corrM Pr fL fK way tw rd z) : Fr h₀ L hp (fun z => if z = nF then a else if z = nB then b else if z = nT then c else corrM Pr fL fK way tw rd z) := by
  rw [← m_clean h]; exact F
theorem turn_app {w : World} {p : Program} {loose : List Str} {mean : ExcName → Option Value} {mg mb : Str → Option Value} {cn : Str} {cs : Scope} {L a : Addr} {ccd : Value} {cl : List (Str × Addr)} {target : PySem.Expr} {env : Env} {body : List Stmt} {e1 e2 e3 k1 k2 i et eP : Addr × Obj} {fL fK H Bd Pr As : Addr} {oL oK : Obj} {way : Str} {tw : Tok} {rd : Bool} {tl : Led}
    {oH oB : Obj} {kvs kvsB : List (Str × Value)} {asked : List Value} {na : Nat} {x y : Str} {t1 t2 : Tok} {ad ax ay : Addr} {b : Int} {tb : Tok} {wd : Str} {tf : Tok} {uA uB : Option Value} {R : Int → Int → Prop}
    {dp un : Nat} {gd : Option (List Code)} {outer : List Env} {A₀ : Around} {base h₀ : Heap} {s : Shared} {Q : Flow → Shared → Prop} {E : Value → Shared → Prop}
    (N : News h₀ L s.heap ((H, oH) :: (Bd, oB) :: (As, listOf asked.toArray na) :: i :: (fL, oL) :: (fK, oK) :: e1 :: e2 :: e3 :: et :: eP :: tl))
    (F : Fr h₀ L s.heap (fun z => if z = nF then some (.str wd tf) else if z = nB then uA else if z = nT then uB else corrM Pr fL fK way tw rd z)) (Bw : Below A₀ base outer h₀) (X : (hd.heap_39 w.params).In h₀) (T : Top p loose mean mg mb h₀) (C : CodeHd base 154 150) (kk : cs.kind = .function)
    (K : TurnSpec w p loose mean mg mb cn cs L a ccd cl target env body [(fL, oL), (fK, oK), e1, e2, e3, k1, k2] fL fK H Bd Pr As way tw rd) (hk1 : k1 ∈ tl) (hk2 : k2 ∈ tl)
    (offH : ∀ p ∈ (i :: (fL, oL) :: (fK, oK) :: e1 :: e2 :: e3 :: et :: eP :: tl : Led), p.1 ≠ H) (offA : ∀ p ∈ (i :: (fL, oL) :: (fK, oK) :: e1 :: e2 :: e3 :: et :: eP :: tl : Led), p.1 ≠ As) (hHA : H ≠ As) (hBH : Bd ≠ H) (hBA : Bd ≠ As) (hpa : (ad, iTup [.str x t1, .str y t2]) ∈ tl) (hlen : asked.length ≤ 1000) (hk10 : kvs.length ≤ 1000)
    (dH : oH.IsDictOf (PySem.strKind PR w) kvs) (dB : oB.IsDictOf (PySem.strKind PR w) kvsB) (vx : valueAt kvs x = some (.ref ax)) (vy : valueAt kvs y = some (.ref ay)) (vb : valueAt kvsB y = some (.int b tb)) (hR : ∀ u sc, R u sc → 0 ≤ sc ∧ sc ≤ 6)
    (hW : ∀ news', (∀ p ∈ (i :: (fL, oL) :: (fK, oK) :: e1 :: e2 :: e3 :: et :: eP :: tl : Led), p ∈ news') → Tells w p loose mean mg mb 134 [.str way tw, .ref ay, .ref ax] news' 3 24 (fun r n => ∃ (c : Addr) (u sc : Int) (k1 k2 : Tok), r = .ref c ∧ n = (c, iTup [.int u k1, .int sc k2]) :: news' ∧ R u sc ∧ ∀ p ∈ news', p.1 < c))
    (hd : dp + 6 < recursionLimit) (hu : un + 40 < cLine)
    (big : ∀ (h' : Heap) (tk' : Nat) (m' : Str → Option Value) (c D : Addr) (u sc : Int) (k1 k2 td : Tok), R u sc → b * p10 sc < (if u < 0 then -u else u) → (@LT.lt Nat _ H c ∧ @LT.lt Nat _ As c ∧ AllLt c (i :: (fL, oL) :: (fK, oK) :: e1 :: e2 :: e3 :: et :: eP :: tl)) → (@LT.lt Nat _ H D ∧ @LT.lt Nat _ As D ∧ @LT.lt Nat _ c D ∧ AllLt D (i :: (fL, oL) :: (fK, oK) :: e1 :: e2 :: e3 :: et :: eP :: tl)) →
      Fr h₀ L h' m' → News h₀ L h' ((D, iTup [.str y td, .bool rd]) :: (c, iTup [.int u k1, .int sc k2]) :: (H, oH) :: (Bd, oB) :: (As, listOf (List.toArray (asked ++ [Value.ref D])) (na + 1)) :: i :: (fL, oL) :: (fK, oK) :: e1 :: e2 :: e3 :: et :: eP :: tl) →
      (∃ t, m' nF = some (.str (Str.ofString "size") t)) → (∀ z, z ≠ nF → z ≠ nB → z ≠ nT → m' z = corrM Pr fL fK way tw rd z) → Q .next { s with heap := h', toks := tk' })
    (small : ∀ (h' : Heap) (tk' : Nat) (m' : Str → Option Value) (c D : Addr) (u sc : Int) (k1 k2 td : Tok) (oH' : Obj), R u sc → ¬ b * p10 sc < (if u < 0 then -u else u) → (@LT.lt Nat _ H c ∧ @LT.lt Nat _ As c ∧ AllLt c (i :: (fL, oL) :: (fK, oK) :: e1 :: e2 :: e3 :: et :: eP :: tl)) → (@LT.lt Nat _ H D ∧ @LT.lt Nat _ As D ∧ @LT.lt Nat _ c D ∧ AllLt D (i :: (fL, oL) :: (fK, oK) :: e1 :: e2 :: e3 :: et :: eP :: tl)) →
      Fr h₀ L h' m' → News h₀ L h' ((D, iTup [.str y td, .bool rd]) :: (c, iTup [.int u k1, .int sc k2]) :: (H, oH') :: (Bd, oB) :: (As, listOf (List.toArray (asked ++ [Value.ref D])) (na + 1)) :: i :: (fL, oL) :: (fK, oK) :: e1 :: e2 :: e3 :: et :: eP :: tl) →
      oH'.IsDictOf (PySem.strKind PR w) (stored kvs y (.ref c)) → (∃ t, m' nF = some (.str wd t)) → (∀ z, z ≠ nF → z ≠ nB → z ≠ nT → m' z = corrM Pr fL fK way tw rd z) → Q .next { s with heap := h', toks := tk' }) :
    wpAny (model PR w) (ktrTop dp un gd cn cs L a ccd cl outer) (assign target env (.ref ad)) (fun _ s₃ => wpAny (model PR w) (ktrTop dp un gd cn cs L a ccd cl outer) (execs body env) Q E s₃) E s := by
  refine K (i :: (fL, oL) :: (fK, oK) :: e1 :: e2 :: e3 :: et :: eP :: tl) oH oB kvs kvsB asked na x y t1 t2 ad ax ay b tb wd tf uA uB R dp un gd outer A₀ base h₀ s Q E ?_ offH offA hHA hBH hBA ?_ hlen hk10 dH dB vx vy vb hR hW Bw F X N T C kk hd hu big small
  · exact (allsub (.tail _ (.head _)) (allsub (.tail _ (.tail _ (.head _))) (allsub (.tail _ (.tail _ (.tail _ (.head _)))) (allsub (.tail _ (.tail _ (.tail _ (.tail _ (.head _))))) (allsub (.tail _ (.tail _ (.tail _ (.tail _ (.tail _ (.head _)))))) (allsub (.tail _ (.tail _ (.tail _ (.tail _ (.tail _ (.tail _ (.tail _ (.tail _ hk1)))))))) (allsub (.tail _ (.tail _ (.tail _ (.tail _ (.tail _ (.tail _ (.tail _ (.tail _ hk2)))))))) (fun p (h : p ∈ ([] : Led)) => nomatch h))))))))
  · exact (.tail _ (.tail _ (.tail _ (.tail _ (.tail _ (.tail _ (.tail _ (.tail _ hpa))))))))
noncomputable abbrev RunGoal : Prop := ∀ (w : World) (p : Program) (loose : List Str) (mean : ExcName → Option Value) (mg mb : Str → Option Value)
   (H Bd Pr As : Addr) (oH oB : Obj) (f g : Str → Value) (V B : Str → Int) (vs : List Value) (n : Nat) (asked : List Value) (ask0 : List (Str × Bool)) (na : Nat) (ps : List (Str × Str)) (way : Str) (sg : Int) (tw : Tok) (rd : Bool) (tl : Led) (TS : Array Value) (hT : TabDone TS tl)
   (hw : isWay way sg) (hH : oH.IsDictOf (PySem.strKind PR w) (d4 f)) (hB : oB.IsDictOf (PySem.strKind PR w) (d4 g)) (hg : Ints g B) (hps : PairsAre tl vs ps) (hf : HeldAt tl f V) (hask : AskAre tl asked ask0) (hl0 : ask0.length ≤ 50) (hl1 : ps.length ≤ 50)
   (n1 : H ≠ 150) (n2 : Bd ≠ 150) (n3 : Pr ≠ 150) (n4 : As ≠ 150) (n5 : Bd ≠ H) (n6 : Pr ≠ H) (n7 : As ≠ H) (n8 : Bd ≠ As) (n9 : Pr ≠ As) (o1 : ∀ p ∈ tl, p.1 ≠ H) (o2 : ∀ p ∈ tl, p.1 ≠ As) (o3 : ∀ p ∈ tl, p.1 ≠ 150),
   TellsC w p loose mean mg mb 155 [.ref H, .ref Bd, .ref Pr, .str way tw, .bool rd, .ref As] ((150, tabObj TS) :: (H, oH) :: (Bd, oB) :: (Pr, listOf vs.toArray n) :: (As, listOf asked.toArray na) :: tl) 8 64
    (RunRet H Bd Pr As oB V B vs n ask0 ps sg rd w tl)
noncomputable def runCap : { P : Prop // Box P → RunGoal } := by
  apply Subtype.mk
  intro hCut
  intro w p loose mean mg mb H Bd Pr As oH oB f g V B vs n asked ask0 na ps way sg tw rd tl TS hT hw hH hB hg hps hf hask hl0 hl1 n1 n2 n3 n4 n5 n6 n7 n8 n9 o1 o2 o3
  unfold TellsC
  obtain ⟨c1, c2, oc1, oc2, rfl, hc1, hc2, ⟨va, ta, da, ea⟩, ⟨vb, tb, db, eb⟩⟩ := id hT
  intro dp un gd cn cs ca ccd cl outer A₀ base h₀ L m s Q E Bw F X N T hcs C hdp hun hret
  refine wpAny_call ?_
  k_dflt (refine' code_defC ?k1 ?k2 ?k3 ?k4 ?k5 ?kA ?kF ?kK ?k6 ?k7 ?k8 ?k9 ?kB ?kD ?_ ?c2 ?c3 ?c4; (case kA => exact rfl); (case kF => exact rfl); (case kK => assumption); (case k1 => k_asm); (case k2 => k_asm); (case k3 => k_asm); (case k4 => k_asm); (case k5 => k_asm); (case k6 => k_is); (case k7 => k_is); (case k8 => ktr_room); (case k9 => exact BindsTo.of_eq rfl); (case kB => exact rfl); (case kD => decide +kernel); (case c2 => exact rfl); (case c3 => exact rfl); (case c4 => exact rfl); k_whole; intro g' L' h' tk' cells' FG' F' N' Y' B' X' T' l1; (try k_lt l1); k_cells Y'; (try simp only [List.cons_append, List.nil_append] at N'); (try dsimp only); (try k_lift B'); (try k_fold))
  k_steps
  unfold Marked
  rename_i F' N'
  refine For_invTF F' ?_ (by intro _; rfl)
  refine ld F' (v := .ref Pr) rfl ?_
  k_dflt (refine' run_iter { w := w, pre := [_, _, _, _, _, _], tl := tl, H := H, Bd := Bd, Pr := Pr, As := As, oB := oB, vs := vs, n := n, V := V, B := B, sg := sg, ps := ps, ask0 := ask0, rd := rd, m₀ := _ } ?hh ?F ?N ?hH ?hf ?ha ?hps ?ho ?hl ?hlp ?hm ?turn ?done; (case hh => exact rfl); (case F => exact F'); (case N => exact N'); (case hH => exact hH); (case hf => exact hf); (case ha => exact hask); (case hps => exact hps); (case ho => exact fun p hp => ⟨o1 p hp, o2 p hp, o3 p hp⟩); (case hl => exact hl0); (case hlp => exact hl1); (case hm => exact ⟨_, rfl⟩))
  case turn =>
    dsimp only [RunP.st, RunP.ask]
    intro i x y a t1 t2 oH' f' asked' na' tl' tf uA uB s₁ I oi hp hI hx hy hpa hH' hf' hask' hlen hsub hoff F₁ N₁
    have hc1' := hsub _ hc1
    have hc2' := hsub _ hc2
    obtain ⟨ax, hfx, dx⟩ := hf' x hx
    obtain ⟨ay, hfy, dy⟩ := hf' y hy
    obtain ⟨tb, hgy⟩ := hg y
    simp only [RunP.led, List.cons_append, List.nil_append] at N₁ hI
    have q1 : ∀ p ∈ tl', p.1 ≠ H := fun p hp => (hoff p hp).1
    have q2 : ∀ p ∈ tl', p.1 ≠ As := fun p hp => (hoff p hp).2.1
    have hI1 : I ≠ H := fun e => hI (H, oH') (by simp) e.symm
    have hI2 : I ≠ As := fun e => hI (As, listOf asked'.toArray na') (by simp) e.symm
    have N₂ := reord6 N₁
    rename (Obj.data _ = Data.cell _) => z3
    revert z3
    rename (Obj.data _ = Data.cell _) => z2
    revert z2
    rename (Obj.data _ = Data.cell _) => z1
    intro z2 z3
    have qc : Obj.data _ = Data.cell (some (Value.ref H)) := z3
    have qb : Obj.data _ = Data.cell (some (Value.ref Bd)) := z2
    have qa : Obj.data _ = Data.cell (some (Value.ref As)) := z1
    clear z1 z2 z3
    have F₂ := F_clean (Pr := Pr) (way := way) (tw := tw) (rd := rd) N₂ F₁ (fun z hz => by
      show (if z = Str.ofString "found" then _ else _) = _
      rw [if_neg hz]
      with_unfolding_all rfl)
    k_dflt (refine' turn_app (uA := uA) (uB := uB) (R := fun u sc => isDec u sc ((runD sg B V (ps.take i)).1 y + sg * (runD sg B V (ps.take i)).1 x)) N₂ F₂ ?Bw ?X ?T ?C ?kk ?K hc1' hc2' ?offH ?offA ?hHA n5 n8 hpa hlen ?hk10 hH' hB (d4_get hx hfx) (d4_get hy hfy) (d4_get hy hgy) ?hR ?hW ?hd ?hu ?big ?small)
    case Bw => k_asm
    case X => k_asm
    case T => k_asm
    case C => k_asm
    case kk => exact rfl
    case K =>
      rename_i tk1 tk2 tk3 tk4 tk5 tk6 tk7 tk8 tk9 tk10 tk11 tk12 tk13 tk14 tk15 tk16 tk17 tk18 tk19 tk20 tk21 tk22 tk23 tk24 tk25 tk26 tk27 tk28
      clear oH oB f g V B vs n asked ask0 na ps sg tl hw hH hB hg hps hf hask hl0 hl1 n1 n2 n3 n4 n5 n6 n7 n8 n9 o1 o2 o3 hT hc1 hc2 dp un gd cn cs ca ccd cl outer A₀ base h₀ L m s Q E Bw F X N T hcs C hdp hun hret g' h' tk' FG' B' X' T' l1 tk8 tk9 tk10 tk11 tk12 tk13 tk16 tk17 tk18 tk19 tk20 tk21 tk23 tk24 tk25 tk26 tk27 qk ek tk tk28 F' N' i x y a t1 t2 oH' f' asked' na' tl' tf uA uB s₁ I oi hp hI hx hy hpa hH' hf' hask' hlen hsub hoff F₁ N₁ hc1' hc2' ax hfx dx ay hfy dy tb hgy q1 q2 hI1 hI2 N₂ F₂
      revert w p loose mean mg mb H Bd Pr As way tw rd c1 c2 oc1 oc2 va ta da ea vb tk1 db eb L' tk2 tk3 tk4 tk5 tk6 tk7 tk14 tk15 tk22 qc qb qa
      exact hCut.out
    case hk10 => exact Nat.le_of_ble_eq_true rfl
    case hHA => exact Ne.symm n7
    case offH =>
      refine offc hI1 (offc (by omega) (offc (by omega) (offc (by omega) (offc (by omega) (offc (by omega) (offc (Ne.symm n1) (offc n6 ?_)))))))
      assumption
    case offA =>
      refine offc hI2 (offc (by omega) (offc (by omega) (offc (by omega) (offc (by omega) (offc (by omega) (offc (Ne.symm n4) (offc n9 ?_)))))))
      assumption
    case hR => exact fun u sc h => ⟨h.1, h.2.1⟩
    case hW =>
      intro news' hs
      exact way_tells way sg tw ay ax _ _ news' hw (dy.to fun p hp => hs _ (.tail _ (.tail _ (.tail _ (.tail _ (.tail _ (.tail _ (.tail _ (.tail _ hp))))))))) (dx.to fun p hp => hs _ (.tail _ (.tail _ (.tail _ (.tail _ (.tail _ (.tail _ (.tail _ (.tail _ hp)))))))))
    case hd => ktr_room
    case hu => ktr_units
    case big =>
      intro h2 tk2 m2 c D u sc k1 k2 td hR hb hc hD F3 N3 hm hz
      exact RunP.end_big _ (t := td) F3 (reord6b N3) hI hp hH' hf' hask' hsub hoff hR hb hD.1 hD.2.1 hD.2.2.2.2.2.2.2.2.2.1 (Nat.ne_of_gt hD.2.2.2.1) hc.1 hc.2.1 hc.2.2.2.2.2.2.2.2.1 (Nat.ne_of_gt hc.2.2.1) hm (fun z h1 h2 h3 => (hz z h1 h2 h3).trans (by
        show _ = (if z = Str.ofString "found" then _ else _)
        rw [if_neg h1]
        with_unfolding_all rfl))
    case small =>
      intro h2 tk2 m2 c D u sc k1 k2 td oH2 hR hb hc hD F3 N3 hd2 hm hz
      rw [d4_put hy] at hd2
      exact RunP.end_small _ (t := td) F3 (reord6b N3) hI hp hd2 hf' hask' hsub hoff hR hb hD.1 hD.2.1 hD.2.2.2.2.2.2.2.2.2.1 (Nat.ne_of_gt hD.2.2.2.1) hc.1 hc.2.1 hc.2.2.2.2.2.2.2.2.1 (Nat.ne_of_gt hc.2.2.1) hm (fun z h1 h2 h3 => (hz z h1 h2 h3).trans (by
        show _ = (if z = Str.ofString "found" then _ else _)
        rw [if_neg h1]
        with_unfolding_all rfl))
  case done =>
    dsimp only [RunP.st, RunP.ask]
    intro oH' f' asked' na' tl' tf uA uB h tk hH' hf' hask' hsub hoff F₁ N₁
    simp only [RunP.led, List.cons_append, List.nil_append] at N₁
    k_steps
    exact run_ret2 hret (by assumption) (by assumption) hT hH' hf' hask' hsub hoff
end
section
open PySem PySem.W PyProof.Rows
theorem off10 : True := by
  w_top off
  trivial
local macro_rules | `(tactic| walk_at "subscriptTail") => `(tactic| (k_here; (with_reducible show wpAny _ _ (subscriptTail _ _ (Value.ref _) (Value.str _ _)) _ _ _); k_dflt (refine' kda_item (knd := PySem.strKind _ _) ?N ?m ?d (strKind_is _ _ _ _) ?e ?_; (case N => k_asm); (case m => k_mem); (case d => assumption); (case e => assumption))))
local macro_rules | `(tactic| walk_at "setItem ref str") => `(tactic| (k_here; refine stop_here ?_))
local macro_rules | `(tactic| walk_at "call builtin:list.append") => `(tactic| (k_here; refine stop_here ?_))
local macro_rules | `(tactic| walk_at "call ref") => `(tactic| (k_here; (with_reducible show wpAny _ _ (call (Value.ref 134) _) _ _ _); refine stop_here ?_))
local macro_rules | `(tactic| walk_at "execs cons") => `(tactic| (k_here; k_fold))
local macro_rules | `(tactic| walk_at "eval Call") => `(tactic| (k_here; k_fold))
local macro_rules | `(tactic| walk_at "eval Compare") => `(tactic| (k_here; k_fold))
local macro_rules | `(tactic| walk_at "eval BinOp") => `(tactic| (k_here; k_fold))
local macro_rules | `(tactic| walk_at "eval Subscript") => `(tactic| (k_here; k_fold))
local macro_rules | `(tactic| walk_at "callWith") => `(tactic| (k_here; k_fold))
theorem ins5 {h₀ h : Heap} {L : Addr} {H B A f1 f2 f3 f4 f5 : Addr × Obj} {rest : Led} (N : News h₀ L h (H :: B :: A :: rest)) (m1 : f1 ∈ rest) (m2 : f2 ∈ rest) (m3 : f3 ∈ rest) (m4 : f4 ∈ rest) (m5 : f5 ∈ rest) : News h₀ L h (H :: B :: A :: f1 :: f2 :: f3 :: f4 :: f5 :: rest) :=
  News.sub N (allsub (.head _) (allsub (.tail _ (.head _)) (allsub (.tail _ (.tail _ (.head _))) (allsub (.tail _ (.tail _ (.tail _ m1))) (allsub (.tail _ (.tail _ (.tail _ m2))) (allsub (.tail _ (.tail _ (.tail _ m3))) (allsub (.tail _ (.tail _ (.tail _ m4))) (allsub (.tail _ (.tail _ (.tail _ m5))) (fun _ hp => (.tail _ (.tail _ (.tail _ hp))))))))))))
theorem del5 {h₀ h : Heap} {L : Addr} {D c H B A f1 f2 f3 f4 f5 : Addr × Obj} {rest : Led} (N : News h₀ L h (D :: c :: H :: B :: A :: f1 :: f2 :: f3 :: f4 :: f5 :: rest)) : News h₀ L h (D :: c :: H :: B :: A :: rest) :=
  News.sub N (allsub (.head _) (allsub (.tail _ (.head _)) (allsub (.tail _ (.tail _ (.head _))) (allsub (.tail _ (.tail _ (.tail _ (.head _)))) (allsub (.tail _ (.tail _ (.tail _ (.tail _ (.head _))))) (fun _ hp => (.tail _ (.tail _ (.tail _ (.tail _ (.tail _ (.tail _ (.tail _ (.tail _ (.tail _ (.tail _ hp))))))))))))))))
theorem fillK2 (_ : PySem.Challenge.rw_pb0227_01 = PySem.Challenge.rw_pb0227_01) (_ : hd.heap_39 = hd.heap_39) : PySem.Challenge.rw_pb0227_01 = PySem.Challenge.rw_pb0227_01 ∧ hd.heap_39 = hd.heap_39 := by
  k_fill
  exact ⟨rfl, rfl⟩
set_option tactic.hygienic false in
theorem turnT : runCap.1 := by
  delta runCap
  dsimp only
  intros
  unfold TurnSpec
  intro rest oH oB kvs kvsB asked na x y t1 t2 ad ax ay b tb wd tf uA uB R dp un gd outer A₀ base h₀ s Q E hsub offH offA hHA hBH hBA hpa hlen hk10 dH dB vx vy vb' hR hW Bw F X N T C kk hdp hun big small
  have m1 := hsub _ (.head _)
  have m2 := hsub _ (.tail _ (.head _))
  have m3 := hsub _ (.tail _ (.tail _ (.head _)))
  have m4 := hsub _ (.tail _ (.tail _ (.tail _ (.head _))))
  have m5 := hsub _ (.tail _ (.tail _ (.tail _ (.tail _ (.head _)))))
  have m6 := hsub _ (.tail _ (.tail _ (.tail _ (.tail _ (.tail _ (.head _))))))
  have m7 := hsub _ (.tail _ (.tail _ (.tail _ (.tail _ (.tail _ (.tail _ (.head _)))))))
  clear hsub
  have a1 := offH _ m1
  have a2 := offH _ m2
  have a3 := offH _ m3
  have a4 := offH _ m4
  have a5 := offH _ m5
  have b1 := offA _ m1
  have b2 := offA _ m2
  have b3 := offA _ m3
  have b4 := offA _ m4
  have b5 := offA _ m5
  dsimp only at a1 a2 a3 a4 a5 b1 b2 b3 b4 b5
  have N := ins5 N m1 m2 m3 m4 m5
  k_steps
  unfold Marked
  k_dflt (refine' tells_call ?k1 ?k2 ?k3 ?k4 ?k5 ?kK (hW _ ?hs) ?kd ?ku ?_)
  case k1 => k_asm
  case k2 => k_asm
  case k3 => k_asm
  case k4 => k_asm
  case k5 => k_asm
  case kK => exact rfl
  case hs => exact fun p hp => by k_mem
  case kd => ktr_room
  case ku => ktr_units
  rintro r9 h9 tk9 news9 F9 N9 ⟨c, u, sc, q1, q2, rfl, rfl, hu, hlt⟩
  obtain ⟨s0, s6⟩ := hR u sc hu
  k_lt hlt
  k_sweep
  try dsimp only
  k_steps
  unfold Marked
  k_dflt (refine' append_L ?k1 ?k2 ?k3 ?z ?_)
  case k1 => k_asm
  case k2 => k_asm
  case k3 => first | k_upd | fail "x"
  case z => assumption
  k_whole
  intro h' F' N'
  try k_sweep
  k_steps
  · rename (c < _ ∧ _) => lD
    exact big _ _ _ c _ u sc _ _ _ hu (by assumption) ⟨hlt.1, hlt.2.2.1, hlt.2.2.2.2.2.2.2.2⟩ ⟨lD.2.1, lD.2.2.2.1, lD.1, lD.2.2.2.2.2.2.2.2.2⟩ (by k_asm) (del5 (by k_asm)) ⟨_, by with_unfolding_all rfl⟩ (fun z h1 h2 h3 => by simp only [if_neg h1, if_neg h2, if_neg h3])
  · unfold Marked
    k_dflt (refine' kda_set (knd := PySem.strKind _ _) ?F ?N ?U ?d (strKind_is _ _ _ _) ?z ?_)
    case F => k_asm
    case N => k_asm
    case U => first | k_updF | fail "x"
    case d => assumption
    case z => first | rw [sizeLine_eq]; omega | fail "x"
    intro h' o' F' N' hd'
    try dsimp only at N'
    k_steps
    rename (c < _ ∧ _) => lD
    exact small _ _ _ c _ u sc _ _ _ _ hu (by assumption) ⟨hlt.1, hlt.2.2.1, hlt.2.2.2.2.2.2.2.2⟩ ⟨lD.2.1, lD.2.2.2.1, lD.1, lD.2.2.2.2.2.2.2.2.2⟩ (by k_asm) (del5 (by k_asm)) (by assumption) ⟨_, by with_unfolding_all rfl⟩ (fun z h1 h2 h3 => by simp only [if_neg h1, if_neg h2, if_neg h3])
end
section
open PySem PySem.W PyProof.Rows
theorem off11 : True := by
  w_top off
  trivial
local macro_rules | `(tactic| walk_at "exec For Tuple Name cons nil") => `(tactic| (k_here; refine stop_here ?_))
theorem reord8 {h₀ h : Heap} {L : Addr} {i f1 f2 g1 g2 e1 e2 e3 et H B P A : Addr × Obj} {tl : Led} (N : News h₀ L h (i :: f1 :: g2 :: f2 :: g1 :: e1 :: e2 :: e3 :: et :: H :: B :: P :: A :: tl)) :
    News h₀ L h (H :: B :: A :: i :: f1 :: f2 :: e1 :: e2 :: e3 :: et :: P :: g1 :: g2 :: tl) := News.sub N (allsub (.tail _ (.tail _ (.tail _ (.tail _ (.tail _ (.tail _ (.tail _ (.tail _ (.tail _ (.head _)))))))))) (allsub (.tail _ (.tail _ (.tail _ (.tail _ (.tail _ (.tail _ (.tail _ (.tail _ (.tail _ (.tail _ (.head _))))))))))) (allsub (.tail _ (.tail _ (.tail _ (.tail _ (.tail _ (.tail _ (.tail _ (.tail _ (.tail _ (.tail _ (.tail _ (.tail _ (.head _))))))))))))) (allsub (.head _) (allsub (.tail _ (.head _)) (allsub (.tail _ (.tail _ (.tail _ (.head _)))) (allsub (.tail _ (.tail _ (.tail _ (.tail _ (.tail _ (.head _)))))) (allsub (.tail _ (.tail _ (.tail _ (.tail _ (.tail _ (.tail _ (.head _))))))) (allsub (.tail _ (.tail _ (.tail _ (.tail _ (.tail _ (.tail _ (.tail _ (.head _)))))))) (allsub (.tail _ (.tail _ (.tail _ (.tail _ (.tail _ (.tail _ (.tail _ (.tail _ (.head _))))))))) (allsub (.tail _ (.tail _ (.tail _ (.tail _ (.tail _ (.tail _ (.tail _ (.tail _ (.tail _ (.tail _ (.tail _ (.head _)))))))))))) (allsub (.tail _ (.tail _ (.tail _ (.tail _ (.head _))))) (allsub (.tail _ (.tail _ (.head _))) (fun _ hp => (.tail _ (.tail _ (.tail _ (.tail _ (.tail _ (.tail _ (.tail _ (.tail _ (.tail _ (.tail _ (.tail _ (.tail _ (.tail _ hp)))))))))))))))))))))))))))
theorem reord8b {h₀ h : Heap} {L : Addr} {D c i f1 f2 g1 g2 e1 e2 e3 et H B P A : Addr × Obj} {tl : Led} (N : News h₀ L h (D :: c :: H :: B :: A :: i :: f1 :: f2 :: e1 :: e2 :: e3 :: et :: P :: g1 :: g2 :: tl)) :
    News h₀ L h (D :: c :: i :: f1 :: g2 :: f2 :: g1 :: e1 :: e2 :: e3 :: et :: H :: B :: P :: A :: tl) := News.sub N (allsub (.head _) (allsub (.tail _ (.head _)) (allsub (.tail _ (.tail _ (.tail _ (.tail _ (.tail _ (.head _)))))) (allsub (.tail _ (.tail _ (.tail _ (.tail _ (.tail _ (.tail _ (.head _))))))) (allsub (.tail _ (.tail _ (.tail _ (.tail _ (.tail _ (.tail _ (.tail _ (.tail _ (.tail _ (.tail _ (.tail _ (.tail _ (.tail _ (.tail _ (.head _))))))))))))))) (allsub (.tail _ (.tail _ (.tail _ (.tail _ (.tail _ (.tail _ (.tail _ (.head _)))))))) (allsub (.tail _ (.tail _ (.tail _ (.tail _ (.tail _ (.tail _ (.tail _ (.tail _ (.tail _ (.tail _ (.tail _ (.tail _ (.tail _ (.head _)))))))))))))) (allsub (.tail _ (.tail _ (.tail _ (.tail _ (.tail _ (.tail _ (.tail _ (.tail _ (.head _))))))))) (allsub (.tail _ (.tail _ (.tail _ (.tail _ (.tail _ (.tail _ (.tail _ (.tail _ (.tail _ (.head _)))))))))) (allsub (.tail _ (.tail _ (.tail _ (.tail _ (.tail _ (.tail _ (.tail _ (.tail _ (.tail _ (.tail _ (.head _))))))))))) (allsub (.tail _ (.tail _ (.tail _ (.tail _ (.tail _ (.tail _ (.tail _ (.tail _ (.tail _ (.tail _ (.tail _ (.head _)))))))))))) (allsub (.tail _ (.tail _ (.head _))) (allsub (.tail _ (.tail _ (.tail _ (.head _)))) (allsub (.tail _ (.tail _ (.tail _ (.tail _ (.tail _ (.tail _ (.tail _ (.tail _ (.tail _ (.tail _ (.tail _ (.tail _ (.head _))))))))))))) (allsub (.tail _ (.tail _ (.tail _ (.tail _ (.head _))))) (fun _ hp => (.tail _ (.tail _ (.tail _ (.tail _ (.tail _ (.tail _ (.tail _ (.tail _ (.tail _ (.tail _ (.tail _ (.tail _ (.tail _ (.tail _ (.tail _ hp)))))))))))))))))))))))))))))))
theorem fillK3 (_ : PySem.Challenge.rw_pb0227_01 = PySem.Challenge.rw_pb0227_01) (_ : hd.heap_39 = hd.heap_39) : PySem.Challenge.rw_pb0227_01 = PySem.Challenge.rw_pb0227_01 ∧ hd.heap_39 = hd.heap_39 := by
  k_fill
  exact ⟨rfl, rfl⟩
theorem run_tells {w : World} {p : Program} {loose : List Str} {mean : ExcName → Option Value} {mg mb : Str → Option Value}
   (H Bd Pr As : Addr) (oH oB : Obj) (f g : Str → Value) (V B : Str → Int) (vs : List Value) (n : Nat) (asked : List Value) (ask0 : List (Str × Bool)) (na : Nat) (ps : List (Str × Str)) (way : Str) (sg : Int) (tw : Tok) (rd : Bool) (tl : Led)
   (hw : isWay way sg) (hH : oH.IsDictOf (PySem.strKind PR w) (d4 f)) (hB : oB.IsDictOf (PySem.strKind PR w) (d4 g)) (hg : Ints g B) (hps : PairsAre tl vs ps) (hf : HeldAt tl f V) (hask : AskAre tl asked ask0) (hl0 : ask0.length ≤ 50) (hl1 : ps.length ≤ 50)
   (n1 : H ≠ 150) (n2 : Bd ≠ 150) (n3 : Pr ≠ 150) (n4 : As ≠ 150) (n5 : Bd ≠ H) (n6 : Pr ≠ H) (n7 : As ≠ H) (n8 : Bd ≠ As) (n9 : Pr ≠ As) (o1 : ∀ p ∈ tl, p.1 ≠ H) (o2 : ∀ p ∈ tl, p.1 ≠ As) (o3 : ∀ p ∈ tl, p.1 ≠ 150) :
   TellsC w p loose mean mg mb 155 [.ref H, .ref Bd, .ref Pr, .str way tw, .bool rd, .ref As] ((150, tabObj #[]) :: (H, oH) :: (Bd, oB) :: (Pr, listOf vs.toArray n) :: (As, listOf asked.toArray na) :: tl) 8 64
    (RunRet H Bd Pr As oB V B vs n ask0 ps sg rd w tl) := by
  unfold TellsC
  intro dp un gd cn cs ca ccd cl outer A₀ base h₀ L m s Q E Bw F X N T hcs C hdp hun hret
  refine wpAny_call ?_
  k_dflt (refine' code_defC ?k1 ?k2 ?k3 ?k4 ?k5 ?kA ?kF ?kK ?k6 ?k7 ?k8 ?k9 ?kB ?kD ?_ ?c2 ?c3 ?c4; (case kA => exact rfl); (case kF => exact rfl); (case kK => assumption); (case k1 => k_asm); (case k2 => k_asm); (case k3 => k_asm); (case k4 => k_asm); (case k5 => k_asm); (case k6 => k_is); (case k7 => k_is); (case k8 => ktr_room); (case k9 => exact BindsTo.of_eq rfl); (case kB => exact rfl); (case kD => decide +kernel); (case c2 => exact rfl); (case c3 => exact rfl); (case c4 => exact rfl); k_whole; intro g' L' h' tk' cells' FG' F' N' Y' B' X' T' l1; (try k_lt l1); k_cells Y'; (try simp only [List.cons_append, List.nil_append] at N'); (try dsimp only); (try k_lift B'); (try k_fold))
  k_steps
  unfold Marked
  rename_i F' N'
  refine For_invTF F' ?_ (by intro _; rfl)
  refine ld F' (v := .ref Pr) rfl ?_
  k_dflt (refine' run_iter { w := w, pre := [_, _, _, _, _, _, _, _], tl := tl, H := H, Bd := Bd, Pr := Pr, As := As, oB := oB, vs := vs, n := n, V := V, B := B, sg := sg, ps := ps, ask0 := ask0, rd := rd, m₀ := _ } ?hh ?F ?N ?hH ?hf ?ha ?hps ?ho ?hl ?hlp ?hm ?turn ?done; (case hh => exact rfl); (case F => exact F'); (case N => exact N'); (case hH => exact hH); (case hf => exact hf); (case ha => exact hask); (case hps => exact hps); (case ho => exact fun p hp => ⟨o1 p hp, o2 p hp, o3 p hp⟩); (case hl => exact hl0); (case hlp => exact hl1); (case hm => exact ⟨_, rfl⟩))
  case turn =>
    dsimp only [RunP.st, RunP.ask]
    intro i x y a t1 t2 oH' f' asked' na' tl' tf uA uB s₁ I oi hp hI hx hy hpa hH' hf' hask' hlen hsub hoff F₁ N₁
    obtain ⟨ax, hfx, dx⟩ := hf' x hx
    obtain ⟨ay, hfy, dy⟩ := hf' y hy
    obtain ⟨tb, hgy⟩ := hg y
    simp only [RunP.led, List.cons_append, List.nil_append] at N₁ hI
    have q1 : ∀ p ∈ tl', p.1 ≠ H := fun p hp => (hoff p hp).1
    have q2 : ∀ p ∈ tl', p.1 ≠ As := fun p hp => (hoff p hp).2.1
    have hI1 : I ≠ H := fun e => hI (H, oH') (by simp) e.symm
    have hI2 : I ≠ As := fun e => hI (As, listOf asked'.toArray na') (by simp) e.symm
    have N₂ := reord8 N₁
    rename (Obj.data _ = Data.cell _) => z3
    revert z3
    rename (Obj.data _ = Data.cell _) => z2
    revert z2
    rename (Obj.data _ = Data.cell _) => z1
    intro z2 z3
    have qc : Obj.data _ = Data.cell (some (Value.ref H)) := z3
    have qb : Obj.data _ = Data.cell (some (Value.ref Bd)) := z2
    have qa : Obj.data _ = Data.cell (some (Value.ref As)) := z1
    clear z1 z2 z3
    have F₂ := F_clean (Pr := Pr) (way := way) (tw := tw) (rd := rd) N₂ F₁ (fun z hz => by
      show (if z = Str.ofString "found" then _ else _) = _
      rw [if_neg hz]
      with_unfolding_all rfl)
    k_dflt (refine' turn_app (uA := uA) (uB := uB) (R := fun u sc => isDec u sc ((runD sg B V (ps.take i)).1 y + sg * (runD sg B V (ps.take i)).1 x)) N₂ F₂ ?Bw ?X ?T ?C ?kk ?K (.head _) (.tail _ (.head _)) ?offH ?offA ?hHA n5 n8 (.tail _ (.tail _ hpa)) hlen ?hk10 hH' hB (d4_get hx hfx) (d4_get hy hfy) (d4_get hy hgy) ?hR ?hW ?hd ?hu ?big ?small)
    case Bw => k_asm
    case X => k_asm
    case T => k_asm
    case C => k_asm
    case kk => exact rfl
    case K =>
      rename (_[1]? = some _) => z2
      revert z2
      rename (_[1]? = some _) => z1
      intro z2
      exact turnT _ _ _ _ _ _ _ _ _ _ _ _ _ _ _ _ _ _ _ (by assumption) z1 _ _ (by assumption) z2 _ _ _ _ _ _ _ _ _ _ qc qb qa
    case hk10 => exact Nat.le_of_ble_eq_true rfl
    case hHA => exact Ne.symm n7
    case offH =>
      refine offc hI1 (offc (by omega) (offc (by omega) (offc (by omega) (offc (by omega) (offc (by omega) (offc (Ne.symm n1) (offc n6 (offc (by omega) (offc (by omega) ?_)))))))))
      assumption
    case offA =>
      refine offc hI2 (offc (by omega) (offc (by omega) (offc (by omega) (offc (by omega) (offc (by omega) (offc (Ne.symm n4) (offc n9 (offc (by omega) (offc (by omega) ?_)))))))))
      assumption
    case hR => exact fun u sc h => ⟨h.1, h.2.1⟩
    case hW =>
      intro news' hs
      exact way_tells way sg tw ay ax _ _ news' hw (dy.to fun p hp => hs _ (.tail _ (.tail _ (.tail _ (.tail _ (.tail _ (.tail _ (.tail _ (.tail _ (.tail _ (.tail _ hp))))))))))) (dx.to fun p hp => hs _ (.tail _ (.tail _ (.tail _ (.tail _ (.tail _ (.tail _ (.tail _ (.tail _ (.tail _ (.tail _ hp)))))))))))
    case hd => ktr_room
    case hu => ktr_units
    case big =>
      intro h2 tk2 m2 c D u sc k1 k2 td hR hb hc hD F3 N3 hm hz
      exact RunP.end_big _ (t := td) F3 (reord8b N3) hI hp hH' hf' hask' hsub hoff hR hb hD.1 hD.2.1 hD.2.2.2.2.2.2.2.2.2.1 (Nat.ne_of_gt hD.2.2.2.1) hc.1 hc.2.1 hc.2.2.2.2.2.2.2.2.1 (Nat.ne_of_gt hc.2.2.1) hm (fun z h1 h2 h3 => (hz z h1 h2 h3).trans (by
        show _ = (if z = Str.ofString "found" then _ else _)
        rw [if_neg h1]
        with_unfolding_all rfl))
    case small =>
      intro h2 tk2 m2 c D u sc k1 k2 td oH2 hR hb hc hD F3 N3 hd2 hm hz
      rw [d4_put hy] at hd2
      exact RunP.end_small _ (t := td) F3 (reord8b N3) hI hp hd2 hf' hask' hsub hoff hR hb hD.1 hD.2.1 hD.2.2.2.2.2.2.2.2.2.1 (Nat.ne_of_gt hD.2.2.2.1) hc.1 hc.2.1 hc.2.2.2.2.2.2.2.2.1 (Nat.ne_of_gt hc.2.2.1) hm (fun z h1 h2 h3 => (hz z h1 h2 h3).trans (by
        show _ = (if z = Str.ofString "found" then _ else _)
        rw [if_neg h1]
        with_unfolding_all rfl))
  case done =>
    dsimp only [RunP.st, RunP.ask]
    intro oH' f' asked' na' tl' tf uA uB h tk hH' hf' hask' hsub hoff F₁ N₁
    simp only [RunP.led, List.cons_append, List.nil_append] at N₁
    k_steps
    exact run_ret1 hret (by assumption) (by assumption) rfl (by assumption) (by assumption) (by assumption) (by assumption) (by with_unfolding_all rfl) (by with_unfolding_all rfl) hH' hf' hask' hsub hoff (by omega) (by omega) (by omega) (by omega) (by omega) (by omega)
theorem run_tells2 {w : World} {p : Program} {loose : List Str} {mean : ExcName → Option Value} {mg mb : Str → Option Value}
   (H Bd Pr As : Addr) (oH oB : Obj) (f g : Str → Value) (V B : Str → Int) (vs : List Value) (n : Nat) (asked : List Value) (ask0 : List (Str × Bool)) (na : Nat) (ps : List (Str × Str)) (way : Str) (sg : Int) (tw : Tok) (rd : Bool) (tl : Led) (TS : Array Value) (hT : TabDone TS tl)
   (hw : isWay way sg) (hH : oH.IsDictOf (PySem.strKind PR w) (d4 f)) (hB : oB.IsDictOf (PySem.strKind PR w) (d4 g)) (hg : Ints g B) (hps : PairsAre tl vs ps) (hf : HeldAt tl f V) (hask : AskAre tl asked ask0) (hl0 : ask0.length ≤ 50) (hl1 : ps.length ≤ 50)
   (n1 : H ≠ 150) (n2 : Bd ≠ 150) (n3 : Pr ≠ 150) (n4 : As ≠ 150) (n5 : Bd ≠ H) (n6 : Pr ≠ H) (n7 : As ≠ H) (n8 : Bd ≠ As) (n9 : Pr ≠ As) (o1 : ∀ p ∈ tl, p.1 ≠ H) (o2 : ∀ p ∈ tl, p.1 ≠ As) (o3 : ∀ p ∈ tl, p.1 ≠ 150) :
   TellsC w p loose mean mg mb 155 [.ref H, .ref Bd, .ref Pr, .str way tw, .bool rd, .ref As] ((150, tabObj TS) :: (H, oH) :: (Bd, oB) :: (Pr, listOf vs.toArray n) :: (As, listOf asked.toArray na) :: tl) 8 64
    (RunRet H Bd Pr As oB V B vs n ask0 ps sg rd w tl) :=
  runCap.2 ⟨turnT⟩ w p loose mean mg mb H Bd Pr As oH oB f g V B vs n asked ask0 na ps way sg tw rd tl TS hT hw hH hB hg hps hf hask hl0 hl1 n1 n2 n3 n4 n5 n6 n7 n8 n9 o1 o2 o3
end
section
open PySem PySem.W PyProof.Rows
theorem off12 : True := by
  w_top off
  trivial
section
theorem fill9 (_ : PySem.Challenge.rw_pb0227_01 = PySem.Challenge.rw_pb0227_01) (_ : hd.heap_39 = hd.heap_39) : PySem.Challenge.rw_pb0227_01 = PySem.Challenge.rw_pb0227_01 ∧ hd.heap_39 = hd.heap_39 := by
  k_fill
  exact ⟨rfl, rfl⟩
noncomputable def mxS (s1 s2 : Int) : Int := if s2 > s1 then s2 else s1
noncomputable def plN (u1 s1 u2 s2 : Int) : Int × Nat := normD (u1 * p10 (mxS s1 s2 - s1) + u2 * p10 (mxS s1 s2 - s2)) (mxS s1 s2).toNat
theorem ub_exact {w : World} {p : Program} {loose : List Str} {mean : ExcName → Option Value} {mg mb : Str → Option Value}
   (a b : Addr) (u1 s1 u2 s2 : Int) (t1 t2 t3 t4 : Tok) (news : Led) (ha : (a, iTup [.int u1 t1, .int s1 t2]) ∈ news) (hb : (b, iTup [.int u2 t3, .int s2 t4]) ∈ news)
   (h1 : 0 ≤ s1) (h2 : s1 ≤ 6) (h3 : 0 ≤ s2) (h4 : s2 ≤ 6) :
   Tells w p loose mean mg mb 84 [.ref a, .ref b] news 1 8 (fun r news' => ∃ c tk1 tk2 tk3, r = .ref c ∧ news' = (c, iTup [.int (u1 * p10 (mxS s1 s2 - s1)) tk1, .int (u2 * p10 (mxS s1 s2 - s2)) tk2, .int (mxS s1 s2) tk3]) :: news ∧ (∀ p ∈ news, p.1 < c)) := by
  unfold Tells
  intro dp un gd cn cs a ccd cl outer A₀ base h₀ L m s Q E B F X N T hcs hdp hun hret
  refine wpAny_call ?_
  k_dflt cell_enter
  k_steps
  exact hret _ _ _ _ (by assumption) (by assumption) ⟨_, _, _, _, rfl, rfl, by assumption⟩
local macro_rules | `(tactic| walk_at "call ref") => `(tactic| (k_here; with_reducible refine stopCall ?_))
theorem plus_exact {w : World} {p : Program} {loose : List Str} {mean : ExcName → Option Value} {mg mb : Str → Option Value}
   (a b : Addr) (u1 s1 u2 s2 : Int) (t1 t2 t3 t4 : Tok) (news : Led) (ha : (a, iTup [.int u1 t1, .int s1 t2]) ∈ news) (hb : (b, iTup [.int u2 t3, .int s2 t4]) ∈ news)
   (h1 : 0 ≤ s1) (h2 : s1 ≤ 6) (h3 : 0 ≤ s2) (h4 : s2 ≤ 6) :
   Tells w p loose mean mg mb 91 [.ref a, .ref b] news 2 16 (fun r news' => ∃ c tk1 tk2, r = .ref c ∧ news' = (c, iTup [.int (plN u1 s1 u2 s2).1 tk1, .int (plN u1 s1 u2 s2).2 tk2]) :: news ∧ (∀ p ∈ news, p.1 < c)) := by
  unfold Tells
  intro dp un gd cn cs ca ccd cl outer A₀ base h₀ L m s Q E B F X N T hcs hdp hun hret
  have hm0 : 0 ≤ mxS s1 s2 := by unfold mxS; split <;> omega
  refine wpAny_call ?_
  k_dflt cell_enter
  k_steps
  unfold Marked
  k_dflt (refine' tells_call ?k1 ?k2 ?k3 ?k4 ?k5 ?kK (ub_exact _ _ _ _ _ _ _ _ _ _ _ ?m1 ?m2 ?o1 ?o2 ?o3 ?o4) ?kd ?ku ?_)
  case k1 => k_asm
  case k2 => k_asm
  case k3 => k_asm
  case k4 => k_asm
  case k5 => k_asm
  case kK => first | exact rfl | assumption
  case m1 => first | k_mem | fail "x"
  case m2 => first | k_mem | fail "x"
  case o1 => assumption
  case o2 => assumption
  case o3 => assumption
  case o4 => assumption
  case kd => ktr_room
  case ku => ktr_units
  refine fun r9 h9 tk9 news9 F9 N9 X9 => ?_
  obtain ⟨c9, tk1, tk2, tk3, e1, e2, l9⟩ := X9
  subst e1
  subst e2
  try dsimp only
  try k_fold
  k_steps
  unfold Marked
  k_dflt (refine' tells_call ?k1 ?k2 ?k3 ?k4 ?k5 ?kK (dec_tells _ _ _ _ _ ?o1) ?kd ?ku ?_)
  case k1 => k_asm
  case k2 => k_asm
  case k3 => k_asm
  case k4 => k_asm
  case k5 => k_asm
  case kK => first | exact rfl | assumption
  case o1 => assumption
  case kd => ktr_room
  case ku => ktr_units
  refine fun r9 h9 tk9 news9 F9 N9 X9 => ?_
  obtain ⟨c9, tk1, tk2, e1, e2, l9⟩ := X9
  subst e1
  subst e2
  try dsimp only
  try k_fold
  k_steps
  refine hret _ _ _ _ (by assumption) (news_drop2 (by assumption)) ⟨_, _, _, rfl, rfl, lt_drop (by assumption)⟩
theorem way_exact {w : World} {p : Program} {loose : List Str} {mean : ExcName → Option Value} {mg mb : Str → Option Value}
   (tw : Tok) (a b : Addr) (u1 s1 u2 s2 U : Int) (S : Nat) (t1 t2 t3 t4 : Tok) (news : Led) (e : plN u1 s1 u2 s2 = (U, S)) (ha : (a, iTup [.int u1 t1, .int s1 t2]) ∈ news) (hb : (b, iTup [.int u2 t3, .int s2 t4]) ∈ news)
   (h1 : 0 ≤ s1) (h2 : s1 ≤ 6) (h3 : 0 ≤ s2) (h4 : s2 ≤ 6) :
   Tells w p loose mean mg mb 134 [.str (Str.ofString "+") tw, .ref a, .ref b] news 3 24 (fun r news' => ∃ c tk1 tk2, r = .ref c ∧ news' = (c, iTup [.int U tk1, .int (S : Int) tk2]) :: news ∧ (∀ p ∈ news, p.1 < c)) := by
  unfold Tells
  intro dp un gd cn cs ca ccd cl outer A₀ base h₀ L m s Q E B F X N T hcs hdp hun hret
  refine wpAny_call ?_
  k_dflt cell_enter
  k_steps
  unfold Marked
  k_dflt (refine' tells_call ?k1 ?k2 ?k3 ?k4 ?k5 ?kK (plus_exact _ _ _ _ _ _ _ _ _ _ _ ?m1 ?m2 ?o1 ?o2 ?o3 ?o4) ?kd ?ku ?_)
  case k1 => k_asm
  case k2 => k_asm
  case k3 => k_asm
  case k4 => k_asm
  case k5 => k_asm
  case kK => first | exact rfl | assumption
  case m1 => first | k_mem | fail "x"
  case m2 => first | k_mem | fail "x"
  case o1 => assumption
  case o2 => assumption
  case o3 => assumption
  case o4 => assumption
  case kd => ktr_room
  case ku => ktr_units
  refine fun r9 h9 tk9 news9 F9 N9 X9 => ?_
  obtain ⟨c9, tk1, tk2, e1, e2, l9⟩ := X9
  subst e1
  subst e2
  try dsimp only
  try k_fold
  k_steps
  rename News _ _ _ _ => N9
  rw [e] at N9
  exact hret _ _ _ _ (by assumption) N9 ⟨_, _, _, rfl, rfl, by assumption⟩
end
theorem way_lit {w : World} {p : Program} {loose : List Str} {mean : ExcName → Option Value} {mg mb : Str → Option Value}
   {tw : Tok} {a b : Addr} {u1 s1 u2 s2 U Si : Int} {S : Nat} {t1 t2 t3 t4 : Tok} {news : Led} (e : plN u1 s1 u2 s2 = (U, S)) (hS : (S : Int) = Si) (ha : (a, iTup [.int u1 t1, .int s1 t2]) ∈ news) (hb : (b, iTup [.int u2 t3, .int s2 t4]) ∈ news)
   (h1 : 0 ≤ s1) (h2 : s1 ≤ 6) (h3 : 0 ≤ s2) (h4 : s2 ≤ 6) :
   Tells w p loose mean mg mb 134 [.str (Str.ofString "+") tw, .ref a, .ref b] news 3 24 (fun r news' => ∃ c tk1 tk2, r = .ref c ∧ news' = (c, iTup [.int U tk1, .int Si tk2]) :: news ∧ (∀ p ∈ news, p.1 < c)) := by
  subst hS
  exact way_exact tw a b u1 s1 u2 s2 U S t1 t2 t3 t4 news e ha hb h1 h2 h3 h4
theorem way_1 : plN 7 0 5 0 = (12, 0) := by decide
theorem way_2 : plN 25 1 5 0 = (75, 1) := by decide
theorem way_3 : plN 5 0 75 1 = (125, 1) := by decide
end
section
open PySem PySem.W PyProof.Rows
theorem off13 : True := by
  w_top off
  trivial
local macro_rules | `(tactic| walk_at "exec For Tuple Name cons nil") => `(tactic| (k_here; refine stop_here ?_))
local macro_rules | `(tactic| walk_at "assign Tuple") => `(tactic| (k_here; refine stop_here ?_))
theorem fillTR (_ : PySem.Challenge.rw_pb0227_01 = PySem.Challenge.rw_pb0227_01) (_ : hd.heap_39 = hd.heap_39) : PySem.Challenge.rw_pb0227_01 = PySem.Challenge.rw_pb0227_01 ∧ hd.heap_39 = hd.heap_39 := by
  k_fill
  exact ⟨rfl, rfl⟩
theorem Tells.weak {w : World} {p : Program} {loose : List Str} {mean : ExcName → Option Value} {mg mb : Str → Option Value} {f : Addr} {vs : List Value} {news : Led} {dd uu : Nat} {Ret Ret' : Value → Led → Prop} (h : Tells w p loose mean mg mb f vs news dd uu Ret) (hw : ∀ r n, Ret r n → Ret' r n) : Tells w p loose mean mg mb f vs news dd uu Ret' := by
  unfold Tells at h ⊢
  intro dp un gd cn cs a ccd cl outer A₀ base h₀ L m s Q E B F X N T hcs hdp hun hret
  exact h dp un gd cn cs a ccd cl outer A₀ base h₀ L m s Q E B F X N T hcs hdp hun fun r h' tk' n F' N' q => hret r h' tk' n F' N' (hw r n q)
noncomputable def TabRet (TS : Array Value) (H Bd Pr As p1 p2 p3 a b : Addr) (oB : Obj) (w : World) (tl : Led) (r : Value) (news' : Led) : Prop :=
  ∃ (t : Tok) (oH : Obj) (d D1 D2 D3 : Addr) (na : Nat) (tl' : Led) (k1 k2 k3 k4 k5 : Tok), r = .str (Str.ofString "size") t ∧ news' = (150, tabObj TS) :: (H, oH) :: (Bd, oB) :: (Pr, iTup [.ref p1, .ref p2, .ref p3]) :: (As, listOf #[.ref D1, .ref D2, .ref D3] na) :: tl' ∧
    oH.IsDictOf (PySem.strKind PR w) [(sA, .ref a), (sB, .ref b), (sC, .ref d)] ∧ (d, iTup [.int 75 k1, .int 1 k2]) ∈ tl' ∧ (D1, iTup [.str sB k3, .bool true]) ∈ tl' ∧ (D2, iTup [.str sC k4, .bool true]) ∈ tl' ∧ (D3, iTup [.str sA k5, .bool true]) ∈ tl' ∧ ∀ p ∈ tl, p ∈ tl'
theorem F_turn {h₀ hp : Heap} {L : Addr} {H B A i : Addr × Obj} {fL fK Pr : Addr} {oL oK : Obj} {rest : Led} {v : Value} {m : Str → Option Value} {way : Str} {tw : Tok} {rd : Bool} (_ : News h₀ L hp (H :: B :: A :: i :: (fL, oL) :: (fK, oK) :: rest))
    (F : Fr h₀ L hp m) (hm : m nF = some v) (hz : ∀ z, z ≠ nF → z ≠ nB → z ≠ nT → m z = corrM Pr fL fK way tw rd z) : ∃ uA uB, Fr h₀ L hp (fun z => if z = nF then some v else if z = nB then uA else if z = nT then uB else corrM Pr fL fK way tw rd z) :=
  ⟨m nB, m nT, by rw [← map3 hm hz]; exact F⟩
theorem F_norm {h₀ hp : Heap} {L : Addr} {v : Value} {m f : Str → Option Value} (F : Fr h₀ L hp m) (hm : m nF = some v) (hz : ∀ z, z ≠ nF → z ≠ nB → z ≠ nT → m z = f z) : ∃ uA uB, Fr h₀ L hp (fun z => if z = nF then some v else if z = nB then uA else if z = nT then uB else f z) :=
  ⟨m nB, m nT, by rw [← map3 hm hz]; exact F⟩
theorem drop5 {h₀ h : Heap} {L : Addr} {a b c d e : Addr × Obj} {r : Led} (N : News h₀ L h (a :: b :: c :: d :: e :: r)) : News h₀ L h r := News.sub N fun _ hp => .tail _ (.tail _ (.tail _ (.tail _ (.tail _ hp))))
theorem reord6c {h₀ h : Heap} {L : Addr} {D c i f1 f2 e1 e2 e3 et H B P A : Addr × Obj} {tl : Led} (N : News h₀ L h (D :: c :: H :: B :: A :: i :: f1 :: f2 :: e1 :: e2 :: e3 :: et :: P :: tl)) :
    News h₀ L h (i :: f1 :: f2 :: e1 :: e2 :: e3 :: et :: H :: B :: P :: A :: D :: c :: tl) := News.sub N (allsub (.tail _ (.tail _ (.tail _ (.tail _ (.tail _ (.head _)))))) (allsub (.tail _ (.tail _ (.tail _ (.tail _ (.tail _ (.tail _ (.head _))))))) (allsub (.tail _ (.tail _ (.tail _ (.tail _ (.tail _ (.tail _ (.tail _ (.head _)))))))) (allsub (.tail _ (.tail _ (.tail _ (.tail _ (.tail _ (.tail _ (.tail _ (.tail _ (.head _))))))))) (allsub (.tail _ (.tail _ (.tail _ (.tail _ (.tail _ (.tail _ (.tail _ (.tail _ (.tail _ (.head _)))))))))) (allsub (.tail _ (.tail _ (.tail _ (.tail _ (.tail _ (.tail _ (.tail _ (.tail _ (.tail _ (.tail _ (.head _))))))))))) (allsub (.tail _ (.tail _ (.tail _ (.tail _ (.tail _ (.tail _ (.tail _ (.tail _ (.tail _ (.tail _ (.tail _ (.head _)))))))))))) (allsub (.tail _ (.tail _ (.head _))) (allsub (.tail _ (.tail _ (.tail _ (.head _)))) (allsub (.tail _ (.tail _ (.tail _ (.tail _ (.tail _ (.tail _ (.tail _ (.tail _ (.tail _ (.tail _ (.tail _ (.tail _ (.head _))))))))))))) (allsub (.tail _ (.tail _ (.tail _ (.tail _ (.head _))))) (allsub (.head _) (allsub (.tail _ (.head _)) (fun _ hp => (.tail _ (.tail _ (.tail _ (.tail _ (.tail _ (.tail _ (.tail _ (.tail _ (.tail _ (.tail _ (.tail _ (.tail _ (.tail _ hp)))))))))))))))))))))))))))
theorem unr_end {h₀ h' : Heap} {L : Addr} {s₁ : Shared} {i : Addr × Obj} {all : Led} {rest : (Str → Option Value) → List (Addr × Obj) → Prop} {tk : Nat} {m' : Str → Option Value} (F : Fr h₀ L h' m') (N : News h₀ L h' (i :: all)) (ne : ∀ p ∈ all, p.1 ≠ i.1) (r : rest m' all) : UnrEndW h₀ L s₁ [i] rest { s₁ with heap := h', toks := tk } :=
  ⟨h', tk, m', all, rfl, F, N, fun p hp q hq => by
    rw [List.mem_singleton] at hq
    subst hq
    exact ne p hp, r⟩
theorem offp {x : Addr} {a : Addr × Obj} {tl : Led} (h1 : a.1 ≠ x) (h2 : ∀ p ∈ tl, p.1 ≠ x) : ∀ p ∈ (a :: tl : Led), p.1 ≠ x := fun p hp => by
  rcases List.mem_cons.mp hp with rfl | hp
  · exact h1
  · exact h2 p hp
theorem neL {a b : Addr} (h : @LT.lt Nat _ a b) : a ≠ b := Nat.ne_of_lt h
theorem neG {a b : Addr} (h : @LT.lt Nat _ b a) : a ≠ b := Nat.ne_of_gt h
theorem pre7 {h₀ h : Heap} {L x : Addr} {H0 B0 A0 i f1 f2 e1 e2 e3 et eP : Addr × Obj} {tl : Led} (_ : News h₀ L h (H0 :: B0 :: A0 :: i :: f1 :: f2 :: e1 :: e2 :: e3 :: et :: eP :: tl)) (h1 : f1.1 ≠ x) (h2 : f2.1 ≠ x) (h3 : e1.1 ≠ x) (h4 : e2.1 ≠ x) (h5 : e3.1 ≠ x) (h6 : et.1 ≠ x) (h7 : eP.1 ≠ x) (tl' : Led) (h : ∀ p ∈ tl', p.1 ≠ x) :
    ∀ p ∈ (f1 :: f2 :: e1 :: e2 :: e3 :: et :: eP :: tl' : Led), p.1 ≠ x := offp h1 (offp h2 (offp h3 (offp h4 (offp h5 (offp h6 (offp h7 h))))))
theorem off_lt8 {x : Addr} : ∀ {l : Led}, AllLt x l → ∀ p ∈ l, p.1 ≠ x
  | [], _, _, h => nomatch h
  | _ :: _, h, p, hp => by
    rcases List.mem_cons.mp hp with rfl | hp
    · exact neL h.1
    · exact off_lt8 h.2 p hp
theorem fl_all {h₀ h : Heap} {L : Addr} {i f1 f2 e1 e2 e3 et H B P A p1 p2 p3 a b c k1 k2 : Addr × Obj} (_ : News h₀ L h [i, f1, f2, e1, e2, e3, et, H, B, P, A, p1, p2, p3, a, b, c, k1, k2])
    (l : @LT.lt Nat _ f1.1 i.1 ∧ @LT.lt Nat _ f2.1 i.1 ∧ @LT.lt Nat _ e1.1 i.1 ∧ @LT.lt Nat _ e2.1 i.1 ∧ @LT.lt Nat _ e3.1 i.1 ∧ @LT.lt Nat _ et.1 i.1 ∧ @LT.lt Nat _ H.1 i.1 ∧ @LT.lt Nat _ B.1 i.1 ∧ @LT.lt Nat _ P.1 i.1 ∧ @LT.lt Nat _ A.1 i.1 ∧ @LT.lt Nat _ p1.1 i.1 ∧ @LT.lt Nat _ p2.1 i.1 ∧ @LT.lt Nat _ p3.1 i.1 ∧ @LT.lt Nat _ a.1 i.1 ∧ @LT.lt Nat _ b.1 i.1 ∧ @LT.lt Nat _ c.1 i.1 ∧ @LT.lt Nat _ k1.1 i.1 ∧ @LT.lt Nat _ k2.1 i.1) : AllLt i.1 [f1, f2, e1, e2, e3, et, H, B, P, A, p1, p2, p3, a, b, c, k1, k2] := by
  obtain ⟨h1, h2, h3, h4, h5, h6, h7, h8, h9, h10, h11, h12, h13, h14, h15, h16, h17, h18⟩ := l
  exact ⟨h1, h2, h3, h4, h5, h6, h7, h8, h9, h10, h11, h12, h13, h14, h15, h16, h17, h18, trivial⟩
theorem tl_of10 {x : Addr} {f1 f2 e1 e2 e3 et H B P A : Addr × Obj} {tl : Led} (h : ∀ p ∈ (f1 :: f2 :: e1 :: e2 :: e3 :: et :: H :: B :: P :: A :: tl : Led), p.1 ≠ x) : ∀ p ∈ tl, p.1 ≠ x := fun p hp => h p (.tail _ (.tail _ (.tail _ (.tail _ (.tail _ (.tail _ (.tail _ (.tail _ (.tail _ (.tail _ hp))))))))))
theorem sw10 {x : Addr} {f1 f2 e1 e2 e3 et H B P A : Addr × Obj} {tl tl' : Led} (h : ∀ p ∈ (f1 :: f2 :: e1 :: e2 :: e3 :: et :: H :: B :: P :: A :: tl : Led), p.1 ≠ x) (oH' oA' : Obj) (k : ∀ p ∈ tl', p.1 ≠ x) : ∀ p ∈ (f1 :: f2 :: e1 :: e2 :: e3 :: et :: (H.1, oH') :: B :: P :: (A.1, oA') :: tl' : Led), p.1 ≠ x :=
  offp (h _ (.head _)) (offp (h _ (.tail _ (.head _))) (offp (h _ (.tail _ (.tail _ (.head _)))) (offp (h _ (.tail _ (.tail _ (.tail _ (.head _))))) (offp (h _ (.tail _ (.tail _ (.tail _ (.tail _ (.head _)))))) (offp (h _ (.tail _ (.tail _ (.tail _ (.tail _ (.tail _ (.head _))))))) (offp (h H (.tail _ (.tail _ (.tail _ (.tail _ (.tail _ (.tail _ (.head _)))))))) (offp (h _ (.tail _ (.tail _ (.tail _ (.tail _ (.tail _ (.tail _ (.tail _ (.head _))))))))) (offp (h _ (.tail _ (.tail _ (.tail _ (.tail _ (.tail _ (.tail _ (.tail _ (.tail _ (.head _)))))))))) (offp (h A (.tail _ (.tail _ (.tail _ (.tail _ (.tail _ (.tail _ (.tail _ (.tail _ (.tail _ (.head _))))))))))) k)))))))))
theorem tabrun_tells {w : World} {p : Program} {loose : List Str} {mean : ExcName → Option Value} {mg mb : Str → Option Value}
   (H Bd Pr As p1 p2 p3 a b c c1 c2 : Addr) (oH oB oc1 oc2 : Obj) (g1 g2 g3 tw t1 t2 t3 t4 t5 t6 t7 t8 t9 u1 u2 u3 : Tok) (na : Nat)
   (cd1 : codeN (Str.ofString "_law_run.<locals>.keep") oc1) (cd2 : codeN (Str.ofString "_law_run.<locals>.<lambda>") oc2)
   (hH : oH.IsDictOf (PySem.strKind PR w) [(sA, .ref a), (sB, .ref b), (sC, .ref c)]) (hB : oB.IsDictOf (PySem.strKind PR w) [(sA, .int 9 g1), (sB, .int 9 g2), (sC, .int 9 g3)])
   (n1 : H ≠ 150) (n4 : As ≠ 150) (n5 : Bd ≠ H) (n6 : Pr ≠ H) (n9 : Pr ≠ As) (n7 : As ≠ H) (n8 : Bd ≠ As) (o1 : ∀ p ∈ ([(p1, iTup [.str sA t1, .str sB t2]), (p2, iTup [.str sA t3, .str sC t4]), (p3, iTup [.str sC t5, .str sA t6]), (a, iTup [.int 5 t7, .int 0 u1]), (b, iTup [.int 7 t8, .int 0 u2]), (c, iTup [.int 25 t9, .int 1 u3]), (c1, oc1), (c2, oc2)] : Led), p.1 ≠ H) (o2 : ∀ p ∈ ([(p1, iTup [.str sA t1, .str sB t2]), (p2, iTup [.str sA t3, .str sC t4]), (p3, iTup [.str sC t5, .str sA t6]), (a, iTup [.int 5 t7, .int 0 u1]), (b, iTup [.int 7 t8, .int 0 u2]), (c, iTup [.int 25 t9, .int 1 u3]), (c1, oc1), (c2, oc2)] : Led), p.1 ≠ As) :
   TellsC w p loose mean mg mb 155 [.ref H, .ref Bd, .ref Pr, .str (Str.ofString "+") tw, .bool true, .ref As] ((150, tabObj #[rawInt 82, rawInt 4, Value.ref c1, rawInt 88, rawInt 45, Value.ref c2]) :: (H, oH) :: (Bd, oB) :: (Pr, iTup [.ref p1, .ref p2, .ref p3]) :: (As, listOf #[] na) :: [(p1, iTup [.str sA t1, .str sB t2]), (p2, iTup [.str sA t3, .str sC t4]), (p3, iTup [.str sC t5, .str sA t6]), (a, iTup [.int 5 t7, .int 0 u1]), (b, iTup [.int 7 t8, .int 0 u2]), (c, iTup [.int 25 t9, .int 1 u3]), (c1, oc1), (c2, oc2)]) 8 64
    (TabRet #[rawInt 82, rawInt 4, Value.ref c1, rawInt 88, rawInt 45, Value.ref c2] H Bd Pr As p1 p2 p3 a b oB w [(p1, iTup [.str sA t1, .str sB t2]), (p2, iTup [.str sA t3, .str sC t4]), (p3, iTup [.str sC t5, .str sA t6]), (a, iTup [.int 5 t7, .int 0 u1]), (b, iTup [.int 7 t8, .int 0 u2]), (c, iTup [.int 25 t9, .int 1 u3]), (c1, oc1), (c2, oc2)]) := by
  unfold TellsC
  obtain ⟨va, ta, da, ea⟩ := cd1
  obtain ⟨vb, tb, db, eb⟩ := cd2
  intro dp un gd cn cs ca ccd cl outer A₀ base h₀ L m s Q E Bw F X N T hcs C hdp hun hret
  refine wpAny_call ?_
  k_dflt (refine' code_defC ?k1 ?k2 ?k3 ?k4 ?k5 ?kA ?kF ?kK ?k6 ?k7 ?k8 ?k9 ?kB ?kD ?_ ?c2 ?c3 ?c4; (case kA => exact rfl); (case kF => exact rfl); (case kK => assumption); (case k1 => k_asm); (case k2 => k_asm); (case k3 => k_asm); (case k4 => k_asm); (case k5 => k_asm); (case k6 => k_is); (case k7 => k_is); (case k8 => ktr_room); (case k9 => exact BindsTo.of_eq rfl); (case kB => exact rfl); (case kD => decide +kernel); (case c2 => exact rfl); (case c3 => exact rfl); (case c4 => exact rfl); k_whole; intro g' L' h' tk' cells' FG' F' N' Y' B' X' T' l1; (try k_lt l1); k_cells Y'; (try simp only [List.cons_append, List.nil_append] at N'); (try dsimp only); (try k_lift B'); (try k_fold))
  k_steps
  unfold Marked
  ktu_for
  k_steps
  unfold Marked
  rename (Obj.data _ = Data.cell _) => z3
  revert z3
  rename (Obj.data _ = Data.cell _) => z2
  revert z2
  rename (Obj.data _ = Data.cell _) => z1
  intro z2 z3
  have qc : Obj.data _ = Data.cell (some (Value.ref H)) := z3
  have qb : Obj.data _ = Data.cell (some (Value.ref Bd)) := z2
  have qa : Obj.data _ = Data.cell (some (Value.ref As)) := z1
  clear z1 z2 z3
  have dH1 := hH
  rename News _ _ _ _ => Na1
  rename Fr _ _ _ _ => Fa1
  have Nb1 := reord6 Na1
  rename (@LT.lt Nat _ _ _ ∧ _) => lI
  have lI0 := off_lt8 (fl_all Na1 lI)
  have iH := neG lI.2.2.2.2.2.2.1
  have iA := neG lI.2.2.2.2.2.2.2.2.2.1
  have pH := pre7 (x := H) Nb1 (neG (by omega)) (neG (by omega)) (neG (by omega)) (neG (by omega)) (neG (by omega)) (Ne.symm n1) n6
  have pA := pre7 (x := As) Nb1 (neG (by omega)) (neG (by omega)) (neG (by omega)) (neG (by omega)) (neG (by omega)) (Ne.symm n4) n9
  have tH0 := o1
  have tA0 := o2
  have tI0 := tl_of10 lI0
  obtain ⟨uA1, uB1, Fb1⟩ := F_turn (Pr := Pr) (way := Str.ofString "+") (tw := tw) (rd := true) Nb1 Fa1 (by with_unfolding_all rfl) (fun z h1 h2 h3 => by
    show (if z = Str.ofString "found" then _ else _) = _
    rw [if_neg h1]
    with_unfolding_all rfl)
  k_dflt (refine' turn_app (uA := uA1) (uB := uB1) (R := fun u sc => u = 12 ∧ sc = 0) Nb1 Fb1 ?Bw ?X ?T ?C ?kk ?K (k1 := (c1, oc1)) (k2 := (c2, oc2)) ?hk1 ?hk2 ?offH ?offA (Ne.symm n7) n5 n8 ?hpa ?hlen ?hk10 dH1 hB (x := sA) (y := sB) ?vx ?vy ?vb ?hR ?hW ?hd ?hu ?big ?small)
  case Bw => k_asm
  case X => k_asm
  case T => k_asm
  case C => k_asm
  case kk => exact rfl
  case K => exact turnT _ _ _ _ _ _ _ _ _ _ _ _ _ _ _ _ _ _ _ da ea _ _ db eb _ _ _ _ _ _ _ _ _ _ qc qb qa
  case hk1 => k_mem
  case hk2 => k_mem
  case offH => exact offp iH (pH _ tH0)
  case offA => exact offp iA (pA _ tA0)
  case hpa => k_mem
  case hlen => exact Nat.le_of_ble_eq_true rfl
  case hk10 => exact Nat.le_of_ble_eq_true rfl
  case vx => with_unfolding_all rfl
  case vy => with_unfolding_all rfl
  case vb => with_unfolding_all rfl
  case hR => rintro u sc ⟨rfl, rfl⟩; exact ⟨by decide, by decide⟩
  case hW => exact fun news' hs => (way_lit way_1 rfl (hs _ (by k_mem)) (hs _ (by k_mem)) (by decide) (by decide) (by decide) (by decide)).weak (fun r q ⟨d0, q1, q2, e1, e2, e3⟩ => ⟨d0, _, _, q1, q2, e1, e2, ⟨rfl, rfl⟩, e3⟩)
  case hd => ktr_room
  case hu => ktr_units
  case small => rintro h2 tk2 m2 c0 D u sc k1 k2 td oH2 ⟨rfl, rfl⟩ hb; exact absurd (by decide) hb
  case big =>
  rintro h2 tk2 m1 d1 D1 u sc r1 s1 td1 ⟨rfl, rfl⟩ - hc1 hD1 F3 N3 ⟨tf1, hm1⟩ hz1
  have dH2 := dH1
  have N4 := reord6c N3
  clear N3
  have tH1 := offp (a := (D1, iTup [.str sB td1, .bool true])) (neG hD1.1) (offp (a := (d1, iTup [.int 12 r1, .int 0 s1])) (neG hc1.1) tH0)
  have tA1 := offp (a := (D1, iTup [.str sB td1, .bool true])) (neG hD1.2.1) (offp (a := (d1, iTup [.int 12 r1, .int 0 s1])) (neG hc1.2.1) tA0)
  have tI1 := offp (a := (D1, iTup [.str sB td1, .bool true])) (neG hD1.2.2.2.1) (offp (a := (d1, iTup [.int 12 r1, .int 0 s1])) (neG hc1.2.2.1) tI0)
  dsimp only [UnrPostW]
  k_dflt (refine' unr_end F3 N4 (sw10 lI0 _ _ tI1) ⟨?sub, ?_⟩)
  case sub => k_subL
  clear F3 N4
  k_steps
  unfold Marked
  rename News _ _ _ _ => Na2
  rename Fr _ _ _ _ => Fa2
  have Nb2 := reord6 Na2
  obtain ⟨uA2, uB2, Fb2⟩ := F_turn Nb2 Fa2 hm1 hz1
  k_dflt (refine' turn_app (uA := uA2) (uB := uB2) (R := fun u sc => u = 75 ∧ sc = 1) Nb2 Fb2 ?Bw ?X ?T ?C ?kk ?K (k1 := (c1, oc1)) (k2 := (c2, oc2)) ?hk1 ?hk2 ?offH ?offA (Ne.symm n7) n5 n8 ?hpa ?hlen ?hk10 dH2 hB (x := sA) (y := sC) ?vx ?vy ?vb ?hR ?hW ?hd ?hu ?big ?small)
  case Bw => k_asm
  case X => k_asm
  case T => k_asm
  case C => k_asm
  case kk => exact rfl
  case K => exact turnT _ _ _ _ _ _ _ _ _ _ _ _ _ _ _ _ _ _ _ da ea _ _ db eb _ _ _ _ _ _ _ _ _ _ qc qb qa
  case hk1 => k_mem
  case hk2 => k_mem
  case offH => exact offp iH (pH _ tH1)
  case offA => exact offp iA (pA _ tA1)
  case hpa => k_mem
  case hlen => exact Nat.le_of_ble_eq_true rfl
  case hk10 => exact Nat.le_of_ble_eq_true rfl
  case vx => with_unfolding_all rfl
  case vy => with_unfolding_all rfl
  case vb => with_unfolding_all rfl
  case hR => rintro u sc ⟨rfl, rfl⟩; exact ⟨by decide, by decide⟩
  case hW => exact fun news' hs => (way_lit way_2 rfl (hs _ (by k_mem)) (hs _ (by k_mem)) (by decide) (by decide) (by decide) (by decide)).weak (fun r q ⟨d0, q1, q2, e1, e2, e3⟩ => ⟨d0, _, _, q1, q2, e1, e2, ⟨rfl, rfl⟩, e3⟩)
  case hd => ktr_room
  case hu => ktr_units
  case big => rintro h2 tk2 m2 c0 D u sc k1 k2 td ⟨rfl, rfl⟩ hb; exact absurd hb (by decide)
  case small =>
  rintro h2 tk2 m2 d2 D2 u sc r2 s2 td2 oH2 ⟨rfl, rfl⟩ - hc2 hD2 F3 N3 dH3 ⟨tf2, hm2⟩ hz2
  have dH3 : Obj.IsDictOf (PySem.strKind PR w) oH2 [(sA, .ref a), (sB, .ref b), (sC, .ref d2)] := dH3
  have N4 := reord6c N3
  clear N3
  have tH2 := offp (a := (D2, iTup [.str sC td2, .bool true])) (neG hD2.1) (offp (a := (d2, iTup [.int 75 r2, .int 1 s2])) (neG hc2.1) tH1)
  have tA2 := offp (a := (D2, iTup [.str sC td2, .bool true])) (neG hD2.2.1) (offp (a := (d2, iTup [.int 75 r2, .int 1 s2])) (neG hc2.2.1) tA1)
  have tI2 := offp (a := (D2, iTup [.str sC td2, .bool true])) (neG hD2.2.2.2.1) (offp (a := (d2, iTup [.int 75 r2, .int 1 s2])) (neG hc2.2.2.1) tI1)
  dsimp only [UnrPostW]
  k_dflt (refine' unr_end F3 N4 (sw10 lI0 _ _ tI2) ⟨?sub, ?_⟩)
  case sub => k_subL
  clear F3 N4
  k_steps
  unfold Marked
  rename News _ _ _ _ => Na3
  rename Fr _ _ _ _ => Fa3
  have Nb3 := reord6 Na3
  obtain ⟨uA3, uB3, Fb3⟩ := F_turn Nb3 Fa3 hm2 hz2
  k_dflt (refine' turn_app (uA := uA3) (uB := uB3) (R := fun u sc => u = 125 ∧ sc = 1) Nb3 Fb3 ?Bw ?X ?T ?C ?kk ?K (k1 := (c1, oc1)) (k2 := (c2, oc2)) ?hk1 ?hk2 ?offH ?offA (Ne.symm n7) n5 n8 ?hpa ?hlen ?hk10 dH3 hB (x := sC) (y := sA) ?vx ?vy ?vb ?hR ?hW ?hd ?hu ?big ?small)
  case Bw => k_asm
  case X => k_asm
  case T => k_asm
  case C => k_asm
  case kk => exact rfl
  case K => exact turnT _ _ _ _ _ _ _ _ _ _ _ _ _ _ _ _ _ _ _ da ea _ _ db eb _ _ _ _ _ _ _ _ _ _ qc qb qa
  case hk1 => k_mem
  case hk2 => k_mem
  case offH => exact offp iH (pH _ tH2)
  case offA => exact offp iA (pA _ tA2)
  case hpa => k_mem
  case hlen => exact Nat.le_of_ble_eq_true rfl
  case hk10 => exact Nat.le_of_ble_eq_true rfl
  case vx => with_unfolding_all rfl
  case vy => with_unfolding_all rfl
  case vb => with_unfolding_all rfl
  case hR => rintro u sc ⟨rfl, rfl⟩; exact ⟨by decide, by decide⟩
  case hW => exact fun news' hs => (way_lit way_3 rfl (hs _ (by k_mem)) (hs _ (by k_mem)) (by decide) (by decide) (by decide) (by decide)).weak (fun r q ⟨d0, q1, q2, e1, e2, e3⟩ => ⟨d0, _, _, q1, q2, e1, e2, ⟨rfl, rfl⟩, e3⟩)
  case hd => ktr_room
  case hu => ktr_units
  case small => rintro h2 tk2 m2 c0 D u sc k1 k2 td oH2 ⟨rfl, rfl⟩ hb; exact absurd (by decide) hb
  case big =>
  rintro h2 tk2 m3 d3 D3 u sc r3 s3 td3 ⟨rfl, rfl⟩ - hc3 hD3 F3 N3 ⟨tf3, hm3⟩ hz3
  have dH4 := dH3
  have N4 := reord6c N3
  clear N3
  obtain ⟨uA9, uB9, F3⟩ := F_norm F3 hm3 hz3
  have tH3 := offp (a := (D3, iTup [.str sA td3, .bool true])) (neG hD3.1) (offp (a := (d3, iTup [.int 125 r3, .int 1 s3])) (neG hc3.1) tH2)
  have tA3 := offp (a := (D3, iTup [.str sA td3, .bool true])) (neG hD3.2.1) (offp (a := (d3, iTup [.int 125 r3, .int 1 s3])) (neG hc3.2.1) tA2)
  have tI3 := offp (a := (D3, iTup [.str sA td3, .bool true])) (neG hD3.2.2.2.1) (offp (a := (d3, iTup [.int 125 r3, .int 1 s3])) (neG hc3.2.2.1) tI2)
  dsimp only [UnrPostW]
  k_dflt (refine' unr_end F3 N4 (sw10 lI0 _ _ tI3) ⟨?sub, ?_⟩)
  case sub => k_subL
  clear F3 N4
  k_steps
  exact hret _ _ _ _ (by k_asm) (drop5 (by k_asm)) ⟨tf3, oH2, d2, D1, D2, D3, _, _, r2, s2, td1, td2, td3, rfl, rfl, dH4, by k_mem, by k_mem, by k_mem, by k_mem, fun p hp => .tail _ (.tail _ (.tail _ (.tail _ (.tail _ (.tail _ hp)))))⟩
end
section
open PySem PySem.W PyProof.Rows
theorem off14 : True := by
  w_top off
  trivial
local macro_rules | `(tactic| walk_at "newTuple") => `(tactic| (k_here; k_dflt (refine' kup_newTuple ?F ?N ?_ ?z; (case F => k_asm); (case N => k_asm); (case z => (rw [sizeLine_eq]; exact Nat.le_of_ble_eq_true rfl))); intro D' h' F' N' l1; (try k_lt l1); (try k_sweep)))
local macro_rules | `(tactic| walk_at "eval Dict") => `(tactic| (k_here; refine stop_here ?_))
local macro_rules | `(tactic| walk_at "execs cons") => `(tactic| (k_here; k_fold))
local macro_rules | `(tactic| walk_at "eval Call") => `(tactic| (k_here; k_fold))
local macro_rules | `(tactic| walk_at "eval Compare") => `(tactic| (k_here; k_fold))
local macro_rules | `(tactic| walk_at "callWith") => `(tactic| (k_here; k_fold))
local macro_rules | `(tactic| walk_at "eval BoolOp") => `(tactic| (k_here; k_fold))
local macro_rules | `(tactic| walk_at "eval Tuple") => `(tactic| (k_here; k_fold))
local macro_rules | `(tactic| walk_at "call ref") => `(tactic| (k_here; with_reducible refine stopCall ?_))
theorem fillTS (_ : PySem.Challenge.rw_pb0227_01 = PySem.Challenge.rw_pb0227_01) (_ : hd.heap_39 = hd.heap_39) : PySem.Challenge.rw_pb0227_01 = PySem.Challenge.rw_pb0227_01 ∧ hd.heap_39 = hd.heap_39 := by
  k_fill
  exact ⟨rfl, rfl⟩
theorem tab_reord {h₀ h : Heap} {L : Addr} {P p3 p2 p1 B x A c b a H T c1 c2 : Addr × Obj} (N : News h₀ L h [P, p3, p2, p1, B, x, A, c, b, a, H, T, c1, c2]) : News h₀ L h [T, H, B, P, A, p1, p2, p3, a, b, c, c1, c2] :=
  News.sub N (allsub (.tail _ (.tail _ (.tail _ (.tail _ (.tail _ (.tail _ (.tail _ (.tail _ (.tail _ (.tail _ (.tail _ (.head _)))))))))))) (allsub (.tail _ (.tail _ (.tail _ (.tail _ (.tail _ (.tail _ (.tail _ (.tail _ (.tail _ (.tail _ (.head _))))))))))) (allsub (.tail _ (.tail _ (.tail _ (.tail _ (.head _))))) (allsub (.head _) (allsub (.tail _ (.tail _ (.tail _ (.tail _ (.tail _ (.tail _ (.head _))))))) (allsub (.tail _ (.tail _ (.tail _ (.head _)))) (allsub (.tail _ (.tail _ (.head _))) (allsub (.tail _ (.head _)) (allsub (.tail _ (.tail _ (.tail _ (.tail _ (.tail _ (.tail _ (.tail _ (.tail _ (.tail _ (.head _)))))))))) (allsub (.tail _ (.tail _ (.tail _ (.tail _ (.tail _ (.tail _ (.tail _ (.tail _ (.head _))))))))) (allsub (.tail _ (.tail _ (.tail _ (.tail _ (.tail _ (.tail _ (.tail _ (.head _)))))))) (allsub (.tail _ (.tail _ (.tail _ (.tail _ (.tail _ (.tail _ (.tail _ (.tail _ (.tail _ (.tail _ (.tail _ (.tail _ (.head _))))))))))))) (allsub (.tail _ (.tail _ (.tail _ (.tail _ (.tail _ (.tail _ (.tail _ (.tail _ (.tail _ (.tail _ (.tail _ (.tail _ (.tail _ (.head _)))))))))))))) (fun _ h => nomatch h))))))))))))))
theorem tellsC_call {w : World} {p : Program} {loose : List Str} {mean : ExcName → Option Value} {mg mb : Str → Option Value} {f : Addr} {vs : List Value} {news : Led} {dd uu : Nat} {Ret : Value → Led → Prop}
    {dp un : Nat} {gd : Option (List Code)} {cn : Str} {cs : Scope} {a : Addr} {ccd : Value} {cl : List (Str × Addr)} {outer : List Env} {A₀ : Around} {base h₀ : Heap} {L : Addr} {m : Str → Option Value} {s : Shared} {Q E : Value → Shared → Prop}
    (B : Below A₀ base outer h₀) (F : Fr h₀ L s.heap m) (X : (hd.heap_39 w.params).In h₀) (N : News h₀ L s.heap news) (T : Top p loose mean mg mb h₀) (hk : cs.kind = .function) (C : CodeHd base 154 150)
    (t : TellsC w p loose mean mg mb f vs news dd uu Ret) (hd : dp + dd < recursionLimit) (hu : un + uu < cLine)
    (ret : ∀ r h' tk' news', Fr h₀ L h' m → News h₀ L h' news' → Ret r news' → Q r { s with heap := h', toks := tk' }) :
    wpAny (model PR w) (ktrTop dp un gd cn cs L a ccd cl outer) (call (.ref f) vs) Q E s := t _ _ _ _ _ _ _ _ _ _ _ _ _ _ _ _ _ B F X N T hk C hd hu ret
theorem table_tells {w : World} {p : Program} {loose : List Str} {mean : ExcName → Option Value} {mg mb : Str → Option Value} (c1 c2 : Addr) (oc1 oc2 : Obj) (h1 : codeN (Str.ofString "_law_run.<locals>.keep") oc1) (h2 : codeN (Str.ofString "_law_run.<locals>.<lambda>") oc2) (n1 : @Ne Nat c1 150) (n2 : @Ne Nat c2 150) :
   TellsC w p loose mean mg mb 174 [] [(150, tabObj #[rawInt 82, rawInt 4, Value.ref c1, rawInt 88, rawInt 45, Value.ref c2]), (c1, oc1), (c2, oc2)] 20 200 (fun r news' => r = .bool true ∧ (150, tabObj #[rawInt 82, rawInt 4, Value.ref c1, rawInt 88, rawInt 45, Value.ref c2]) ∈ news') := by
  unfold TellsC
  intro dp un gd cn cs ca ccd cl outer A₀ base h₀ L m s Q E Bw F X N T hcs C hdp hun hret
  refine wpAny_call ?_
  k_dflt cell_enter
  k_steps
  unfold Marked
  k_dflt (refine' kdn_str ?a ?F ?N ?b ?c ?d ?e ?f ?_)
  case a => first | rfl | fail "x"
  case F => k_asm
  case N => k_asm
  case b => exact Top.nolimit (by k_asm)
  case c => first | rfl | fail "x"
  case d => first | rfl | fail "x"
  case e => exact List.cons_ne_nil _ _
  case f => exact Nat.le_of_ble_eq_true rfl
  intro d' h' o' F' N' l1 lo' hd'
  try k_lt l1
  try k_sweep
  k_steps
  unfold Marked
  k_dflt (refine' kdn_str ?a ?F ?N ?b ?c ?d ?e ?f ?_)
  case a => first | rfl | fail "x"
  case F => k_asm
  case N => k_asm
  case b => exact Top.nolimit (by k_asm)
  case c => first | rfl | fail "x"
  case d => first | rfl | fail "x"
  case e => exact List.cons_ne_nil _ _
  case f => exact Nat.le_of_ble_eq_true rfl
  intro d' h' o' F' N' l1 lo' hd'
  try k_lt l1
  try k_sweep
  k_steps
  unfold Marked
  rename News _ _ _ _ => N1
  have N2 := tab_reord N1
  k_dflt (refine' tellsC_call ?B ?F ?X N2 ?T ?kK ?C (tabrun_tells _ _ _ _ _ _ _ _ _ _ _ _ _ _ _ _ _ _ _ _ _ _ _ _ _ _ _ _ _ _ _ _ _ h1 h2 ?hH ?hB ?n1 ?n4 ?n5 ?n6 ?n9 ?n7 ?n8 ?o1 ?o2) ?hd ?hu ?ret)
  case B => k_asm
  case F => k_asm
  case X => k_asm
  case T => k_asm
  case C => k_asm
  case kK => exact rfl
  case hd => ktr_room
  case hu => ktr_units
  case hH => with_unfolding_all assumption
  case hB => with_unfolding_all assumption
  case n1 => exact Nat.ne_of_gt (by omega)
  case n4 => exact Nat.ne_of_gt (by omega)
  case n5 => exact Nat.ne_of_gt (by omega)
  case n6 => exact Nat.ne_of_gt (by omega)
  case n7 => exact Nat.ne_of_gt (by omega)
  case n8 => exact Nat.ne_of_gt (by omega)
  case n9 => exact Nat.ne_of_gt (by omega)
  case o1 =>
    repeat (refine offc (by omega) ?_)
    exact fun _ h => nomatch h
  case o2 =>
    repeat (refine offc (by omega) ?_)
    exact fun _ h => nomatch h
  case ret =>
  rintro r h7 tk7 news7 F7 N7 ⟨t, oH7, d, D1, D2, D3, na, tl7, k1, k2, k3, k4, k5, rfl, rfl, dH7, md, mD1, mD2, mD3, hsub⟩
  have N8 := News.sub N7 (allsub (.head _) (allsub (.tail _ (.head _)) (allsub (.tail _ (.tail _ (.tail _ (.tail _ (.head _))))) (allsub (.tail _ (.tail _ (.tail _ (.tail _ (.tail _ (hsub _ (.tail _ (.tail _ (.tail _ (.head _)))))))))) (allsub (.tail _ (.tail _ (.tail _ (.tail _ (.tail _ (hsub _ (.tail _ (.tail _ (.tail _ (.tail _ (.head _))))))))))) (allsub (.tail _ (.tail _ (.tail _ (.tail _ (.tail _ md))))) (allsub (.tail _ (.tail _ (.tail _ (.tail _ (.tail _ mD1))))) (allsub (.tail _ (.tail _ (.tail _ (.tail _ (.tail _ mD2))))) (allsub (.tail _ (.tail _ (.tail _ (.tail _ (.tail _ mD3))))) (fun p (h : p ∈ ([] : Led)) => nomatch h))))))))))
  clear N7 md mD1 mD2 mD3 hsub N2
  try dsimp only
  k_steps
  unfold Marked
  k_dflt (refine' kdn_str ?a ?F ?N ?b ?c ?d ?e ?f ?_)
  case a => first | rfl | fail "x"
  case F => k_asm
  case N => k_asm
  case b => exact Top.nolimit (by k_asm)
  case c => first | rfl | fail "x"
  case d => first | rfl | fail "x"
  case e => exact List.cons_ne_nil _ _
  case f => exact Nat.le_of_ble_eq_true rfl
  intro d' h' o' F' N' l1 lo' hd'
  try k_lt l1
  try k_sweep
  k_steps
  all_goals trace_state
  all_goals exact hret _ _ _ _ (by k_asm) (by k_asm) ⟨rfl, by k_mem⟩
end
section
open PySem PySem.Calls PySem.W PyProof.Rows PyProof.Rows.LCg

section
variable {prog : Program} {w : World} {A : Around} {E : Value → Shared → Prop} {s : Shared} {h₀ : Heap} {L : Addr} {m : Str → Option Value} {env : Env}

/-- what a block over a dict's keys may ask of its source -/
structure DSrc (prog : Program) (w : World) (A : Around) (h₀ : Heap) (L : Addr) (m : Str → Option Value) (d : Addr) (od : Obj) (kvs : List (Str × Value)) (news : Led) (s₁ : Shared) : Prop where
  hh : A.handled = none
  F : Fr h₀ L s₁.heap m
  N : News h₀ L s₁.heap news
  mem : (d, od) ∈ news
  dict : od.IsDictOf (PySem.strKind prog w) kvs
  low : (d == sysModules) = false
  size : kvs.length ≤ 1000
noncomputable abbrev KeyAt (prog : Program) (w : World) (kvs : List (Str × Value)) (i : Nat) (v : Value) : Prop := ∃ k x, kvs[i]? = some (k, x) ∧ (PySem.strKind prog w).is k v = true

theorem dsrc_walk {d : Addr} {od : Obj} {kvs : List (Str × Value)} {news : Led} {s₁ : Shared} (X : DSrc prog w A h₀ L m d od kvs news s₁) {P : Value → Shared → Prop} {E : Value → Shared → Prop}
    (k : ∀ (I : Addr) (s₂ : Shared) (ep : Nat) (St : Nat → Heap → Prop), (∃ h, s₂ = { s₁ with heap := h }) → Walks prog w A I [I, d] [I] kvs.length (KeyAt prog w kvs) St → (∀ i h, St i h → ∃ o, h.get? I = some o) →
      (∀ i h h' o nw, St i h → h.get? I = some o → h'.get? I = some o → (∀ b o, h₀.get? b = some o → h'.get? b = some o) → News h₀ L h' nw → (d, od) ∈ nw → St i h') → St 0 s₂.heap → (∀ b ∈ [I, d], b < s₂.heap.objs.size) →
      Fr h₀ L s₂.heap m → News h₀ L s₂.heap news → L ≠ I → h₀.get? I = none → (∀ p ∈ news, p.1 ≠ I) → P (.ref I) s₂) : wpAny (model prog w) A (pyIter (.ref d)) P E s₁ := by
  obtain ⟨hh, F, N, hm, ⟨es, ep, e1, e2, e3, e4, e5⟩, lo, _⟩ := X
  have at_ : ∀ {h : Heap}, h.get? d = some od → h.DictAt (PySem.strKind prog w) d kvs ep := fun e => ⟨od, es, e, e1, e2, e3, e4, e5⟩
  have hat := at_ (N _ hm).1
  have hlt : d < s₁.heap.objs.size := Heap.lt_size (N _ hm).1
  have hne : d ≠ s₁.heap.objs.size := Nat.ne_of_lt hlt
  refine wpAny_pyIter_dict lo hat ?_
  refine k s₁.heap.objs.size _ ep _ ⟨_, rfl⟩ (Walks.dictKeys hh _ d hne kvs ep) (fun i h st => ?_) (fun i h h' o nw st e e' kp N' hm' => ?_) ?_ (fun b hb => ?_) (F.push _) (fun p hp => ⟨Heap.get?_push_of_some _ (N p hp).1, (N p hp).2⟩) (Nat.ne_of_lt F.ns.lt) (next_is_new F) (fun p hp => Nat.ne_of_lt (Heap.lt_size (N p hp).1))
  · obtain ⟨o, e, _⟩ := st.1
    exact ⟨o, e⟩
  · exact ⟨st.1.at fun o₂ q => by rw [e] at q; rw [← q]; exact e', at_ (N' _ hm').1⟩
  · exact ⟨⟨_, Heap.get?_push_size _ rfl, rfl, rfl⟩, at_ (Heap.get?_push_of_some _ (N _ hm).1)⟩
  · show b < (s₁.heap.push _).objs.size
    rw [Heap.size_push]
    rcases List.mem_cons.mp hb with rfl | hb
    · exact Nat.lt_succ_self _
    · rw [List.mem_singleton.mp hb]; exact Nat.lt_succ_of_lt hlt

theorem comp_dict {elt iter : Expr} {x : Str} {px : Pos} {scope : Scope} {cl : List (Str × Addr)} {pos : Pos} {Q : Value → Shared → Prop} (_F₀ : Fr h₀ L s.heap m)
    (hclos : closureFor scope env = pure cl) (hcell : ∀ y ∈ scope.names, y.2 ≠ .cell) (hkind : scope.kind = .function)
    (hnames : ∀ y ∈ scope.names, y.2 = .local → scope.names.lookup y.1 = some .local) (hx : scope.names.lookup x = some .local)
    (h : wpAny (model prog w) A (eval iter env) (fun xv s₁ => ∃ d od kvs news, xv = .ref d ∧ DSrc prog w A h₀ L m d od kvs news s₁ ∧ ∀ s₂ : Shared, (∃ h, s₂ = { s₁ with heap := h }) → CompRest prog w A h₀ L m env elt x scope cl s₂ (fun nw => (d, od) ∈ nw) (KeyAt prog w kvs) (FinE h₀ L m s₂ Q) kvs.length 0 [] news) E s)
    (hs : ∀ x, foldedSetIterable iter env x = pure x := by intro _; rfl) :
    wpAny (model prog w) A (eval (.ListComp elt [⟨.Name x px, iter, [], 0⟩] scope pos) env) Q E s := by
  rw [eval_ListComp]
  refine wpAny_comprehension_free (use := none) rfl hs hclos hkind hnames (wpAny_mono h (fun xv s₁ h₁ => ?_) fun _ _ e => e)
  obtain ⟨d, od, kvs, news, rfl, X, R⟩ := h₁
  refine dsrc_walk X fun I s₂ ep St hs₂ W a b c e F N g i j => ?_
  refine block_U W (by rw [sizeLine_eq]; have := X.size; omega) a b hcell hkind hx c e F N g i j X.mem (R _ hs₂) fun D C h tk m' ys news' F' N' o1 hn hC₀ hD₀ hCL hDL hCD offC fin => ?_
  refine ⟨m', hn, fun h'' hs'' => fin D h'' tk (F'.change hs'' hCL hC₀) (fun p hp => ?_) o1⟩
  refine ⟨hs''.extBut _ _ ?_ (N' p hp).1, (N' p hp).2⟩
  rcases List.mem_cons.mp hp with rfl | hp
  · exact Ne.symm hCD
  · exact offC p hp
open PyProof.Rows.LCt in
theorem comp_dict_test {ct elt iter : Expr} {x : Str} {px : Pos} {scope : Scope} {cl : List (Str × Addr)} {pos : Pos} {Q : Value → Shared → Prop} (_F₀ : Fr h₀ L s.heap m)
    (hclos : closureFor scope env = pure cl) (hcell : ∀ y ∈ scope.names, y.2 ≠ .cell) (hkind : scope.kind = .function)
    (hnames : ∀ y ∈ scope.names, y.2 = .local → scope.names.lookup y.1 = some .local) (hx : scope.names.lookup x = some .local)
    (h : wpAny (model prog w) A (eval iter env) (fun xv s₁ => ∃ d od kvs news, xv = .ref d ∧ DSrc prog w A h₀ L m d od kvs news s₁ ∧ ∀ s₂ : Shared, (∃ h, s₂ = { s₁ with heap := h }) → CompRestT prog w A h₀ L m env ct elt x scope cl s₂ (fun nw => (d, od) ∈ nw) (KeyAt prog w kvs) (FinE h₀ L m s₂ Q) kvs.length 0 [] news) E s)
    (hs : ∀ x, foldedSetIterable iter env x = pure x := by intro _; rfl) :
    wpAny (model prog w) A (eval (.ListComp elt [⟨.Name x px, iter, [ct], 0⟩] scope pos) env) Q E s := by
  rw [eval_ListComp]
  refine wpAny_comprehension_free (use := none) rfl hs hclos hkind hnames (wpAny_mono h (fun xv s₁ h₁ => ?_) fun _ _ e => e)
  obtain ⟨d, od, kvs, news, rfl, X, R⟩ := h₁
  refine dsrc_walk X fun I s₂ ep St hs₂ W a b c e F N g i j => ?_
  refine block_T W (by rw [sizeLine_eq]; have := X.size; omega) a b hcell hkind hx c e F N g i j X.mem (R _ hs₂) fun D C h tk m' ys news' F' N' o1 hn hC₀ hD₀ hCL hDL hCD offC fin => ?_
  refine ⟨m', hn, fun h'' hs'' => fin D h'' tk (F'.change hs'' hCL hC₀) (fun p hp => ?_) o1⟩
  refine ⟨hs''.extBut _ _ ?_ (N' p hp).1, (N' p hp).2⟩
  rcases List.mem_cons.mp hp with rfl | hp
  · exact Ne.symm hCD
  · exact offC p hp

theorem cend_mono {I C D : Addr} {oI oC oD : Obj} {S : Led → Prop} {R R' : Value → Led → Prop} {s₁ s₂ : Shared} {y : Value} (hr : ∀ nw, R y nw → R' y nw) (h : CompEnd h₀ L m s₁ I oI C oC D oD S R y s₂) : CompEnd h₀ L m s₁ I oI C oC D oD S R' y s₂ := by
  obtain ⟨h', tk, nw, a, b, c, d, e, f⟩ := h
  exact ⟨h', tk, nw, a, b, c, d, e, hr _ f⟩
theorem compRest_inv {elt : Expr} {x : Str} {scope : Scope} {cl : List (Str × Addr)} {S : Led → Prop} {P : Nat → Value → Prop} {Fin : List Value → Led → Prop} {n : Nat} (Inv : Nat → List Value → Led → Prop)
    (step : ∀ i ys news, i < n → Inv i ys news → ∀ v I oI C oC D m₂ h tk (E' : Value → Shared → Prop), P i v → NsObj oC m₂ → m₂ x = some v → Fr h₀ L h m → News h₀ L h ((I, oI) :: (C, oC) :: (D, lst ys) :: news) → Off3 I C D news → ((@Ne Nat I C) ∧ (@Ne Nat I D) ∧ (@Ne Nat C D)) →
      wpAny (model prog w) A (eval elt (compEnvC scope cl C env)) (CompEnd h₀ L m { s with heap := h, toks := tk } I oI C oC D (lst ys) S (fun y news' => Inv (i + 1) (ys ++ [y]) news')) E' { s with heap := h, toks := tk })
    (fin : ∀ ys news, Inv n ys news → Fin ys news) {news : Led} (h0 : Inv 0 [] news) : CompRest prog w A h₀ L m env elt x scope cl s S P Fin n 0 [] news := by
  have all : ∀ k i ys news, k + i = n → Inv i ys news → CompRest prog w A h₀ L m env elt x scope cl s S P Fin k i ys news := by
    intro k
    induction k with
    | zero => intro i ys news e hI; exact CompRest.zero (fin _ _ (by rwa [show n = i by omega]))
    | succ k ih =>
      intro i ys news e hI
      refine CompRest.succ fun v I oI C oC D m₂ h tk E' a b c d f g j => wpAny_mono (step i ys news (by omega) hI v I oI C oC D m₂ h tk E' a b c d f g j) (fun y s₂ q => cend_mono (fun nw r => ih _ _ _ (by omega) r) q) fun _ _ e => e
  exact all n 0 [] news (by omega) h0
open PyProof.Rows.LCt in
theorem compRestT_inv {ct elt : Expr} {x : Str} {scope : Scope} {cl : List (Str × Addr)} {S : Led → Prop} {P : Nat → Value → Prop} {Fin : List Value → Led → Prop} {n : Nat} (Inv : Nat → List Value → Led → Prop)
    (step : ∀ i ys news, i < n → Inv i ys news → ∀ v I oI C oC D m₂ h tk (E' : Value → Shared → Prop), P i v → NsObj oC m₂ → m₂ x = some v → Fr h₀ L h m → News h₀ L h ((I, oI) :: (C, oC) :: (D, lst ys) :: news) → Off3 I C D news → ((@Ne Nat I C) ∧ (@Ne Nat I D) ∧ (@Ne Nat C D)) →
      wpAny (model prog w) A (isTrue ct (compEnvC scope cl C env) (eval ct (compEnvC scope cl C env))) (fun ok s' => if ok = true then
        wpAny (model prog w) A (eval elt (compEnvC scope cl C env)) (CompEnd h₀ L m { s with heap := h, toks := tk } I oI C oC D (lst ys) S (fun y news' => Inv (i + 1) (ys ++ [y]) news')) E' s'
        else CompEnd h₀ L m { s with heap := h, toks := tk } I oI C oC D (lst ys) S (fun _ news' => Inv (i + 1) ys news') Value.none s') E' { s with heap := h, toks := tk })
    (fin : ∀ ys news, Inv n ys news → Fin ys news) {news : Led} (h0 : Inv 0 [] news) : CompRestT prog w A h₀ L m env ct elt x scope cl s S P Fin n 0 [] news := by
  have all : ∀ k i ys news, k + i = n → Inv i ys news → CompRestT prog w A h₀ L m env ct elt x scope cl s S P Fin k i ys news := by
    intro k
    induction k with
    | zero => intro i ys news e hI; exact CompRestT.zero (fin _ _ (by rwa [show n = i by omega]))
    | succ k ih =>
      intro i ys news e hI
      refine CompRestT.succ fun v I oI C oC D m₂ h tk E' a b c d f g j => wpAny_mono (step i ys news (by omega) hI v I oI C oC D m₂ h tk E' a b c d f g j) (fun ok s₂ q => ?_) fun _ _ e => e
      split at q
      · rename_i e
        rw [if_pos e]
        exact wpAny_mono q (fun y s₃ q => cend_mono (fun nw r => ih _ _ _ (by omega) r) q) fun _ _ e => e
      · rename_i e
        rw [if_neg e]
        exact cend_mono (fun nw r => ih _ _ _ (by omega) r) q
  exact all n 0 [] news (by omega) h0
end
end
section
open PySem PySem.Calls PySem.W PyProof.Rows

theorem getAttrQ_miss_list {prog : Program} {w : World} {A : Around} {E : Value → Shared → Prop} {s : Shared} {a : Addr} {o : Obj} {xs : Array Value} {k : Nat} {name : Str} {Q : Option Value → Shared → Prop}
    (hx : s.heap.get? a = some o) (hc : o.cls = .type "list") (hdat : o.data = .seq xs k) (hd : o.dict = none) (hmiss : typeLookup (.type "list") name = pure none) (hname : (["__module__", "__name__", "__qualname__", "__doc__", "__annotations__"] : List Str).contains name = false) (hA : A.handled = none)
    (h : ∀ h' tk, (∀ b o, s.heap.get? b = some o → h'.get? b = some o) → Q none { s with heap := h', toks := tk }) (hsz : name.length + 100 ≤ sizeLine := by size_fits) :
    wpAny (model prog w) A (getAttr? (.ref a) name) Q E s := by
  obtain ⟨c, dct, dat, sl⟩ := o
  simp only at hc hdat hd
  subst hc hdat hd
  obtain ⟨hp, g, d, tk, os⟩ := s
  have hT : ∀ tk', (⟨hp, g, d, tk', os⟩ : Shared).TypeIs (.ref a) "list" := fun _ => ⟨_, hx, rfl⟩
  have f1 := sub_AttributeError
  have f3 := F.slot_list_getattribute.lookup
  have f4 := F.slot_list_getattribute.bind (.ref a)
  have f5 := am_list_getattr_none
  unfold getAttr? getAttrBy? getAttrBy
  repeat (any_goals (first | assumption | exact hT _ | ((with_reducible show wpAny _ _ (call (Value.builtin "list.__getattribute__") _ _) _ _ _); refine call_meets F.slot_list_getattribute (hT _) am_entry_list_getattribute (F.args_list_getattribute_2 _ _) (meets_getattribute_miss_list a xs k sl name _ hmiss hname hsz) ⟨hx, hA, fun h' tk' e hx' => ?_⟩) | wp_step))
  obtain ⟨t', u', he⟩ := hx'.there
  show wpAny _ _ (getattributeRaised _ _ _ _ _ _ _) _ _ _
  unfold getattributeRaised
  repeat (any_goals (first | assumption | wp_step))
  exact h _ _ hx'.keeps

theorem entry_upd_loop : entryFor table "dict.update.loop" = some Builtin.«dict.update.loop» := entryFor_of_tree (by kernel_rfl)
theorem plain_upd_loop : plainId "dict.update.loop" = true := by decide +kernel

theorem pairItems_tup {prog : Program} {w : World} {A : Around} {E : Value → Shared → Prop} {s : Shared} {a : Addr} {x y : Value} {Q : List Value → Shared → Prop} (hx : s.heap.get? a = some (iTup [x, y])) (h : Q [x, y] s) :
    wpAny (model prog w) A (Builtin.Dict.pairItems (.ref a)) Q E s := by
  have hT : s.TypeIs (.ref a) "tuple" := ⟨_, hx, rfl⟩
  unfold Builtin.Dict.pairItems
  refine wpAny_bind (wpAny_typeOf hT ?_)
  simp only [show ((Value.type "tuple" == Value.type "list") || (Value.type "tuple" == Value.type "tuple")) = true by decide, if_true]
  refine wpAny_bind (wpAny_seqItems hx rfl (wpAny_pure ?_))
  simpa using h

noncomputable def PairVs (h : Heap) (vs : List Value) (kvs : List (Str × Value)) : Prop := vs.length = kvs.length ∧ ∀ (i : Nat) (v : Value), vs[i]? = some v → ∃ (a : Addr) (k : Str) (x : Value) (t : Tok), v = Value.ref a ∧ h.get? a = some (iTup [.str k t, x]) ∧ kvs[i]? = some (k, x)
theorem upd_loop {prog : Program} {w : World} {A : Around} (hh : A.handled = none) {R : Result → Shared → Prop} {vs : List Value} {kvs : List (Str × Value)} {n : Nat} {D I l : Addr} {h₀ : Heap} (hD : h₀.get? D = none) (hI : h₀.get? I = none) (hDI : D ≠ I) (hl : h₀.get? l = some (listOf vs.toArray n)) (hp : PairVs h₀ vs kvs) (hz : kvs.length ≤ 1000) (hn : (kvs.map (·.1)).Nodup) :
    ∀ (k i : Nat) (s : Shared) (t : Tok), vs.length - i = k → i ≤ vs.length → (∀ b o, h₀.get? b = some o → s.heap.get? b = some o) → s.heap.IsListIter I l i → s.heap.DictOf (PySem.strKind prog w) D (merged [] (kvs.take i)) →
      (∀ h' tk, (∀ b o, h₀.get? b = some o → h'.get? b = some o) → h'.DictOf (PySem.strKind prog w) D (merged [] kvs) → R (.ok (.ret .none)) { s with heap := h', toks := tk }) →
      codeAny (model prog w) A (.builtin "dict.update.loop" ⟨[.ref D, .ref I, .int i t, .none], []⟩) R s := by
  have hDl : D ≠ l := fun e => by rw [e, hl] at hD; cases hD
  have hIl : l ≠ I := fun e => by rw [← e, hl] at hI; cases hI
  intro k
  induction k with
  | zero =>
    intro i s t hk hi keep hit hd hR
    have hin : i = vs.length := by omega
    subst hin
    refine codeAny_builtin entry_upd_loop ?_
    rw [Around.under_plainId plain_upd_loop _]
    show wpAny _ A.in1 (pyNext (.ref I) >>= _) _ _ s
    have hls : s.heap.IsList l vs.toArray := ⟨_, keep _ _ hl, rfl, ⟨_, rfl⟩⟩
    have W := Walks.list (prog := prog) (w := w) (A := A.in1) hh I l hIl vs.toArray
    refine wpAny_bind (W.done s _ _ (by simpa using ⟨hit, hls⟩) fun h' tk' hk' => ?_)
    show wpAny _ A.in1 (Builtin.Dict.addKeywords D [] >>= _) _ _ _
    refine wpAny_bind (wpAny_pure ?_)
    refine wpAny_pure ?_
    have kp : ∀ b o, h₀.get? b = some o → b ≠ I := fun b o e q => by rw [q, hI] at e; cases e
    refine hR h' tk' (fun b o e => hk' b o (by simpa using kp b o e) (keep b o e)) ?_
    rw [hp.1, List.take_length] at hd
    exact hd.at fun o e => hk' D o (by simpa using hDI) e
  | succ k ih =>
    intro i s t hk hi keep hit hd hR
    have hlt : i < vs.length := by omega
    refine codeAny_builtin entry_upd_loop ?_
    rw [Around.under_plainId plain_upd_loop _]
    show wpAny _ A.in1 (pyNext (.ref I) >>= _) _ _ s
    have hls : s.heap.IsList l vs.toArray := ⟨_, keep _ _ hl, rfl, ⟨_, rfl⟩⟩
    have W := Walks.list (prog := prog) (w := w) (A := A.in1) hh I l hIl vs.toArray
    refine wpAny_bind (W.item i s _ _ (by simpa using hlt) ⟨hit, hls⟩ fun v h' tk' hPv hst' hk' => ?_)
    have kp : ∀ b o, h₀.get? b = some o → b ≠ I := fun b o e q => by rw [q, hI] at e; cases e
    have keep' : ∀ b o, h₀.get? b = some o → h'.get? b = some o := fun b o e => hk' b o (by simpa using kp b o e) (keep b o e)
    obtain ⟨a, ky, x, tt, rfl, hx, hkv⟩ := hp.2 i v (by simpa using hPv)
    have hd' := hd.at fun o e => hk' D o (by simpa using hDI) e
    show wpAny _ A.in1 (holding [Value.ref a] _ >>= _) _ _ _
    refine wpAny_bind (wpAny_holding (wpAny_bind (wpAny_tryCatch (pairItems_tup (keep' _ _ hx) ?_))))
    show wpAny _ A.in1 (holding [Value.str ky tt, x] (dictSet D (Value.str ky tt) x)) _ _ _
    refine wpAny_holding (wpAny_dictSet_pairs (knd := PySem.strKind prog w) (strKind_is _ _ _ _) hd' (fun h₂ hd₂ hs₂ => ?_) ?_)
    · have e1 : stored (merged [] (kvs.take i)) ky x = merged [] (kvs.take (i + 1)) := by
        rw [List.take_add_one, hkv]
        simp [merged, List.foldl_append]
      rw [e1] at hd₂
      have kD : ∀ b o, h₀.get? b = some o → b ≠ D := fun b o e q => by rw [q, hD] at e; cases e
      refine wpAny_pure ⟨plainId_quiet plain_upd_loop _, ?_⟩
      refine ih (i + 1) _ _ (by omega) hlt (fun b o e => hs₂.extBut b o (kD b o e) (keep' b o e)) (hst'.1.at fun o e => hs₂.extBut I o (Ne.symm hDI) e) hd₂ fun h₃ tk₃ k₃ d₃ => hR h₃ tk₃ k₃ d₃
    · have hn' : ((kvs.take i).map (·.1)).Nodup := (hn.sublist ((List.take_sublist i kvs).map _))
      rw [merged_nil_of_nodup _ hn', List.length_take, sizeLine_eq]
      omega
theorem keys_miss : typeLookup (.type "list") (Str.ofString "keys") = pure none := by rw [typeLookup_type, builtinLookup_eq_fast]; kernel_rfl
theorem call_dict_pairs {prog : Program} {w : World} {A : Around} {E : Value → Shared → Prop} {s : Shared} {Q : Value → Shared → Prop} (hh : A.handled = none) {vs : List Value} {kvs : List (Str × Value)} {n : Nat} {l : Addr}
    (hl : s.heap.get? l = some (listOf vs.toArray n)) (hp : PairVs s.heap vs kvs) (hz : kvs.length ≤ 1000) (hn : (kvs.map (·.1)).Nodup)
    (h : ∀ D h' tk, (∀ b o, s.heap.get? b = some o → h'.get? b = some o) → s.heap.get? D = none → (∀ b o, s.heap.get? b = some o → @LT.lt Nat _ b D) → h'.DictOf (PySem.strKind prog w) D kvs → Q (.ref D) { s with heap := h', toks := tk }) :
    wpAny (model prog w) A (call (.type "dict") [.ref l]) Q E s := by
  refine callType_codes (Q₁ := fun obj s₁ => obj = .ref s.heap.objs.size ∧ s₁ = { s with heap := s.heap.push { cls := .type "dict", data := .dict #[] } }) F.kt_called_dict (F.kt_typeCall_dict_1 _) F.entry_dict_init (kt_code_dict_new _ ⟨rfl, rfl⟩) ?_
  rintro obj s₁ ⟨rfl, rfl⟩
  have hnew : (s.heap.push { cls := .type "dict", data := .dict #[] }).DictOf (PySem.strKind prog w) s.heap.objs.size [] := Heap.DictOf.new s.heap
  have up : ∀ b o, s.heap.get? b = some o → (s.heap.push { cls := .type "dict", data := .dict #[] }).get? b = some o := fun b o e => Heap.get?_push_of_some _ e
  have hl₁ := up _ _ hl
  refine ⟨hnew.typeIs, F.args_dict_init_2 _ _, ?_⟩
  unfold Builtin.«dict.__init__»
  refine wpAny_bind ?_
  unfold Builtin.Dict.selfAndRest
  refine wpAny_bind (wpAny_notOrdered_dict hnew.typeIs ?_)
  show wpAny _ _ (pure (s.heap.objs.size, [Value.ref l])) _ _ _
  refine wpAny_pure ?_
  show wpAny _ _ (Builtin.Dict.updateFrom "dict.__init__" s.heap.objs.size (.ref l) [] .none) _ _ _
  unfold Builtin.Dict.updateFrom
  refine wpAny_bind (wpAny_typeOf (T := "list") ⟨_, hl₁, rfl⟩ ?_)
  rw [if_pos (by decide)]
  refine wpAny_bind (getAttrQ_miss_list (name := Str.ofString "keys") hl₁ rfl rfl rfl keys_miss (by decide) hh (fun h₂ tk₂ k₂ => ?_) (by rw [sizeLine_eq]; decide))
  rw [if_pos (show (none : Option Value).isNone = true from rfl)]
  have k₃ : ∀ b o, s.heap.get? b = some o → h₂.get? b = some o := fun b o e => k₂ b o (up b o e)
  have hnew₂ : h₂.DictOf (PySem.strKind prog w) s.heap.objs.size [] := hnew.keep k₂
  have hl₂ : h₂.get? l = some (listOf vs.toArray n) := k₃ _ _ hl
  have hls : h₂.IsList l vs.toArray := ⟨_, hl₂, rfl, ⟨_, rfl⟩⟩
  refine wpAny_bind (wpAny_rule ?_)
  refine wpAny_bind (wpAny_pyIter_list hls ?_)
  refine wpAny_pure ⟨plainId_quiet plain_upd_loop _, ?_⟩
  have hD₀ : s.heap.get? s.heap.objs.size = none := Heap.get?_none_of_le (Nat.le_refl _)
  have hlt : s.heap.objs.size < h₂.objs.size := by obtain ⟨o, es, ep, e, _⟩ := hnew₂; exact Heap.lt_size e
  refine upd_loop (A := A.in1) hh (h₀ := s.heap) hD₀ (Heap.get?_none_of_le (Nat.le_of_lt hlt)) (Nat.ne_of_lt hlt) hl hp hz hn vs.length 0 _ _ (by omega) (Nat.zero_le _) (fun b o e => Heap.get?_push_of_some _ (k₃ b o e)) ⟨_, Heap.get?_push_size _ rfl, rfl, rfl⟩ (hnew₂.push _) fun h₃ tk₃ k₄ d₄ => ?_
  rw [merged_nil_of_nodup _ hn] at d₄
  exact ⟨rfl, h _ h₃ tk₃ k₄ hD₀ (fun b o e => Heap.lt_size e) d₄⟩

theorem call_dict_news {prog : Program} {w : World} {A : Around} {E : Value → Shared → Prop} {s : Shared} {Q : Value → Shared → Prop} {h₀ : Heap} {L : Addr} {m : Str → Option Value} {news : Led} (hh : A.handled = none) {vs : List Value} {kvs : List (Str × Value)} {n : Nat} {l : Addr}
    (F : Fr h₀ L s.heap m) (N : News h₀ L s.heap news) (hl : (l, listOf vs.toArray n) ∈ news) (hp : PairVs s.heap vs kvs) (hz : kvs.length ≤ 1000) (hn : (kvs.map (·.1)).Nodup)
    (h : ∀ D oD h' tk, Fr h₀ L h' m → News h₀ L h' ((D, oD) :: news) → (∀ p ∈ news, p.1 < D) → oD.IsDictOf (PySem.strKind prog w) kvs → Q (.ref D) { s with heap := h', toks := tk }) :
    wpAny (model prog w) A (call (.type "dict") [.ref l]) Q E s := by
  refine call_dict_pairs hh (N _ hl).1 hp hz hn fun D h' tk k hD lt hd => ?_
  obtain ⟨oD, hoD, hdD⟩ := Heap.dictOf_iff.mp hd
  have hLs : ∃ o, s.heap.get? L = some o := by obtain ⟨o, _, _, e, _⟩ := F.ns; exact ⟨o, e⟩
  refine h D oD h' tk (F.keeps k) (fun p hp => ?_) (fun p hp => lt _ _ (N p hp).1) hdD
  rcases List.mem_cons.mp hp with rfl | hp
  · refine ⟨hoD, fun e => ?_, ?_⟩
    · obtain ⟨o, e'⟩ := hLs
      rw [← e] at e'
      rw [hD] at e'
      cases e'
    · cases q : h₀.get? D with
      | none => rfl
      | some o => have := F.keep _ _ q; rw [hD] at this; cases this
  · exact ⟨k _ _ (N p hp).1, (N p hp).2⟩
theorem call_dict_copy {prog : Program} {w : World} {A : Around} {E : Value → Shared → Prop} {s : Shared} {Q : Value → Shared → Prop} {h₀ : Heap} {L : Addr} {m : Str → Option Value} {news : Led} {kvs : List (Str × Value)} {H : Addr} {oH : Obj}
    (F : Fr h₀ L s.heap m) (N : News h₀ L s.heap news) (lo : (H == sysModules) = false) (hm : (H, oH) ∈ news) (hd : oH.IsDictOf (PySem.strKind prog w) kvs) (hz : kvs.length ≤ 1000)
    (h : ∀ D oD h' tk, Fr h₀ L h' m → News h₀ L h' ((D, oD) :: news) → (∀ p ∈ news, p.1 < D) → oD.IsDictOf (PySem.strKind prog w) kvs → Q (.ref D) { s with heap := h', toks := tk }) :
    wpAny (model prog w) A (call (.type "dict") [.ref H]) Q E s := by
  refine kt_call_dict lo (kda_dict N hm hd) (by rw [sizeLine_eq]; omega) fun h' hd' hs => ?_
  obtain ⟨oD, hoD, hdD⟩ := Heap.dictOf_iff.mp hd'
  have N1 := News.push F N { cls := .type "dict", data := .dict #[] }
  exact h _ oD h' _ ((F.push _).change hs (N1 _ (.head _)).2.1 (N1.fresh (.head _))) (N1.setHead N.apart hs hoD) (fun p hp => Heap.lt_size (N p hp).1) hdD
end
section
open PySem PySem.W PyProof.Rows PyProof.Rows.LCg
theorem off17 : True := by
  w_top off
  trivial
theorem fill7 (_ : PySem.Challenge.rw_pb0227_01 = PySem.Challenge.rw_pb0227_01) (_ : hd.heap_39 = hd.heap_39) : PySem.Challenge.rw_pb0227_01 = PySem.Challenge.rw_pb0227_01 ∧ hd.heap_39 = hd.heap_39 := by
  k_fill
  exact ⟨rfl, rfl⟩

local macro_rules | `(tactic| walk_at "eval ListComp") => `(tactic| (k_here; refine stop_here ?_))
local macro_rules | `(tactic| walk_at "CompEnd") => `(tactic| (refine stop_here ?_))
local macro_rules | `(tactic| walk_at "subscriptTail") => `(tactic| (k_here; (with_reducible show wpAny _ _ (subscriptTail _ _ (Value.ref _) (Value.str _ _)) _ _ _); k_dflt (refine' kda_item (knd := PySem.strKind _ _) (kvs := d4 _) ?N ?m ?d (strKind_is _ _ _ _) (d4_get ?x ?e) ?_; (case N => k_asm); (case m => k_mem); (case d => k_asm); (case x => assumption); (case e => assumption))))

noncomputable def A4 : List Str := [sA, sB, sC, sD]
theorem d4_A4 (f : Str → Value) : d4 f = A4.map fun x => (x, f x) := rfl
theorem A4_nm {i : Nat} {k : Str} (h : A4[i]? = some k) : isNm k := by
  have hm : k ∈ A4 := List.mem_of_getElem? h
  simpa [A4, isNm] using hm
theorem key_at {prog : Program} {w : World} {f : Str → Value} {i : Nat} {v : Value} (h : KeyAt prog w (d4 f) i v) : ∃ k t, v = .str k t ∧ A4[i]? = some k ∧ isNm k := by
  obtain ⟨k, x, hk, his⟩ := h
  rw [d4_A4, List.getElem?_map] at hk
  obtain ⟨k', e1, e2⟩ := Option.map_eq_some_iff.mp hk
  cases e2
  cases v with
  | str s t =>
    have e : s = k := by simpa [PySem.strKind, Value.isStrOf] using his
    exact ⟨k, t, by rw [e], e1, A4_nm e1⟩
  | _ => cases his
noncomputable def IntTups (V : Str → Int) (nw : Led) : List Value → List Str → Prop
  | [], [] => True
  | v :: vs, k :: ks => (∃ a t1 t2, v = .ref a ∧ (a, iTup [.str k t1, .int (V k) t2]) ∈ nw) ∧ IntTups V nw vs ks
  | _, _ => False
theorem IntTups.mono {V : Str → Int} {a b : Led} (hs : ∀ p ∈ a, p ∈ b) : ∀ {vs : List Value} {ks : List Str}, IntTups V a vs ks → IntTups V b vs ks
  | [], [], _ => trivial
  | _ :: _, _ :: _, ⟨⟨a, t1, t2, e, hm⟩, r⟩ => ⟨⟨a, t1, t2, e, hs _ hm⟩, r.mono hs⟩
theorem IntTups.snoc {V : Str → Int} {nw : Led} {a : Addr} {k : Str} {t1 t2 : Tok} (hm : (a, iTup [.str k t1, .int (V k) t2]) ∈ nw) : ∀ {vs : List Value} {ks : List Str}, IntTups V nw vs ks → IntTups V nw (vs ++ [.ref a]) (ks ++ [k])
  | [], [], _ => ⟨⟨a, t1, t2, rfl, hm⟩, trivial⟩
  | _ :: _, _ :: _, ⟨h, r⟩ => ⟨h, r.snoc hm⟩

theorem cend_tup {h₀ h' : Heap} {L I C D D' : Addr} {m : Str → Option Value} {s₁ : Shared} {oI oC oD t : Obj} {S : Led → Prop} {rest : Value → Led → Prop} {y : Value} {tk : Nat} {nw : Led} (F : Fr h₀ L h' m) (N : News h₀ L h' ((D', t) :: (I, oI) :: (C, oC) :: (D, oD) :: nw))
    (lI : @LT.lt Nat _ I D') (lC : @LT.lt Nat _ C D') (lD : @LT.lt Nat _ D D') (off : Off3 I C D nw) (hS : S ((D', t) :: nw)) (r : rest y ((D', t) :: nw)) : CompEnd h₀ L m s₁ I oI C oC D oD S rest y { s₁ with heap := h', toks := tk } :=
  CompEnd.intro F N ((D', t) :: nw) (fun p hp => by
    rcases List.mem_cons.mp hp with e | hp
    · exact .tail _ (List.mem_cons.mpr (.inl e))
    · rcases List.mem_cons.mp hp with e | hp
      · exact .tail _ (.tail _ (List.mem_cons.mpr (.inl e)))
      · rcases List.mem_cons.mp hp with e | hp
        · exact .tail _ (.tail _ (.tail _ (List.mem_cons.mpr (.inl e))))
        · rcases List.mem_cons.mp hp with e | hp
          · exact List.mem_cons.mpr (.inl e)
          · exact .tail _ (.tail _ (.tail _ (.tail _ hp)))) ⟨⟨Nat.ne_of_gt lI, Nat.ne_of_gt lC, Nat.ne_of_gt lD⟩, off⟩ hS r
theorem intTups_pairs {g h : Heap} {L : Addr} {V : Str → Int} {nw nw' : Led} {ys : List Value} (N : News g L h nw') (hs : ∀ p ∈ nw, p ∈ nw') (hi : IntTups V nw ys A4) : ∃ f, Ints f V ∧ PairVs h ys (d4 f) := by
  rcases ys with _ | ⟨va, _ | ⟨vb, _ | ⟨vc, _ | ⟨vd, _ | ⟨ve, r⟩⟩⟩⟩⟩
  · exact False.elim hi
  · exact False.elim hi.2
  · exact False.elim hi.2.2
  · exact False.elim hi.2.2.2
  · obtain ⟨⟨a, a1, a2, ea, ma⟩, ⟨b, b1, b2, eb, mb⟩, ⟨c, c1, c2, ec, mc⟩, ⟨d, d1, d2, ed, md⟩, _⟩ := hi
    refine ⟨fun x => if x = sA then .int (V sA) a2 else if x = sB then .int (V sB) b2 else if x = sC then .int (V sC) c2 else .int (V x) d2, fun x => ?_, rfl, fun i v hv => ?_⟩
    · by_cases h1 : x = sA
      · exact ⟨a2, by dsimp only; rw [if_pos h1, h1]⟩
      by_cases h2 : x = sB
      · exact ⟨b2, by dsimp only; rw [if_neg h1, if_pos h2, h2]⟩
      by_cases h3 : x = sC
      · exact ⟨c2, by dsimp only; rw [if_neg h1, if_neg h2, if_pos h3, h3]⟩
      · exact ⟨d2, by dsimp only; rw [if_neg h1, if_neg h2, if_neg h3]⟩
    · rcases i with _ | _ | _ | _ | n
      · exact ⟨a, sA, _, a1, (by simpa [ea] using hv.symm), (N _ (hs _ ma)).1, rfl⟩
      · exact ⟨b, sB, _, b1, (by simpa [eb] using hv.symm), (N _ (hs _ mb)).1, rfl⟩
      · exact ⟨c, sC, _, c1, (by simpa [ec] using hv.symm), (N _ (hs _ mc)).1, rfl⟩
      · exact ⟨d, sD, _, d1, (by simpa [ed] using hv.symm), (N _ (hs _ md)).1, rfl⟩
      · simp at hv
  · exact False.elim hi.2.2.2.2
local macro_rules | `(tactic| walk_at "call type:dict") => `(tactic| (k_here; refine stop_here ?_))
theorem plain_tells {w : World} {p : Program} {loose : List Str} {mean : ExcName → Option Value} {mg mb : Str → Option Value}
   (H : Addr) (oH : Obj) (f : Str → Value) (V : Str → Int) (tl : Led) (hH : oH.IsDictOf (PySem.strKind PR w) (d4 f)) (hf : HeldAt tl f V) (lo : (H == sysModules) = false) :
   Tells w p loose mean mg mb 167 [.ref H] ((H, oH) :: tl) 4 32
    (fun r news' => ∃ D oD f', r = .ref D ∧ news' = (D, oD) :: (H, oH) :: tl ∧ oD.IsDictOf (PySem.strKind PR w) (d4 f') ∧ Ints f' V ∧ (∀ p ∈ (H, oH) :: tl, p.1 < D)) := by
  unfold Tells
  intro dp un gd cn cs ca ccd cl outer A₀ base h₀ L m s Q E Bw F X N T hcs hdp hun hret
  refine wpAny_call ?_
  k_dflt (refine' code_defC ?k1 ?k2 ?k3 ?k4 ?k5 ?kA ?kF ?kK ?k6 ?k7 ?k8 ?k9 ?kB ?kD ?_ ?c2 ?c3 ?c4; (case kA => exact rfl); (case kF => exact rfl); (case kK => assumption); (case k1 => k_asm); (case k2 => k_asm); (case k3 => k_asm); (case k4 => k_asm); (case k5 => k_asm); (case k6 => k_is); (case k7 => k_is); (case k8 => ktr_room); (case k9 => exact BindsTo.of_eq rfl); (case kB => exact rfl); (case kD => decide +kernel); (case c2 => exact rfl); (case c3 => exact rfl); (case c4 => exact rfl); k_whole; intro g' L' h' tk' cells' FG' F' N' Y' B' X' T' l1; (try k_lt l1); k_cells Y'; (try simp only [List.cons_append, List.nil_append] at N'); (try dsimp only); (try k_lift B'); (try k_fold))
  k_steps
  unfold Marked
  rename_i o' d1'
  refine comp_dict (by assumption) (by with_unfolding_all rfl) (by decide) rfl (by decide) rfl ?_
  walk1
  refine ⟨H, oH, d4 f, _, rfl, ⟨rfl, by assumption, N', by k_mem, hH, lo, Nat.le_of_ble_eq_true rfl⟩, fun s₂ hs₂ => ?_⟩
  obtain ⟨hp2, rfl⟩ := hs₂
  refine compRest_inv (fun i ys nw => (L' + 1, o') ∈ nw ∧ (H, oH) ∈ nw ∧ (∀ p ∈ tl, p ∈ nw) ∧ IntTups V nw ys (A4.take i)) ?_ ?_ ⟨.head _, .tail _ (.head _), fun p hp => .tail _ (.tail _ hp), trivial⟩
  · rintro i ys nw hi ⟨hm1, hm2, hm3, hys⟩ v I oI C oC D m₂ h tk E' hP hC hx F₁ N₁ hoff ⟨ne1, ne2, ne3⟩
    obtain ⟨k, t, rfl, hk, hnm⟩ := key_at hP
    obtain ⟨a, hfa, u, sc, ta, tb, hmt, i1, i2, i3⟩ := hf k hnm
    have hmt' := hm3 _ hmt
    k_steps
    unfold Marked
    have hk2 : A4.take (i + 1) = A4.take i ++ [k] := by rw [List.take_add_one, hk]; rfl
    refine cend_tup (by assumption) (by assumption) (by omega) (by omega) (by omega) hoff (.tail _ hm2) ⟨.tail _ hm1, .tail _ hm2, fun p hp => .tail _ (hm3 p hp), ?_⟩
    rw [hk2]
    refine IntTups.snoc (t1 := t) (t2 := ?_) ?_ (hys.mono fun p hp => .tail _ hp)
    rotate_left
    · rw [← i3]; exact .head _
  · rintro ys nw ⟨hm1, hm2, hm3, hys⟩
    intro D h' tk' F₁ N₁ off₁
    dsimp only
    k_steps
    unfold Marked
    obtain ⟨f', hI', hpr⟩ := intTups_pairs N₁ (fun p hp => .tail _ hp) hys
    refine call_dict_news (n := ys.length) rfl F₁ N₁ (.head _) hpr (Nat.le_of_ble_eq_true rfl) (show [sA, sB, sC, sD].Nodup by decide) fun D2 oD h2 tk2 F2 N2 l2 d2 => ?_
    k_steps
    refine hret _ _ _ _ (by assumption) (News.sub (by assumption) fun p hp => ?_) ⟨D2, oD, f', rfl, rfl, d2, hI', fun p hp => ?_⟩
    · rcases List.mem_cons.mp hp with rfl | hp
      · exact .head _
      · rcases List.mem_cons.mp hp with rfl | hp
        · exact .tail _ (.tail _ hm2)
        · exact .tail _ (.tail _ (hm3 p hp))
    · rcases List.mem_cons.mp hp with rfl | hp
      · exact l2 _ (.tail _ hm2)
      · exact l2 _ (.tail _ (hm3 p hp))
end
end
section
open PySem PySem.Calls PySem.W PyProof.Rows PyProof.Rows.LCg

/-- the texts that the block keeps: the first of each pair whose two are one -/
noncomputable def sameOf (ps : List (Str × Str)) : List Str := (ps.filter fun p => decide (p.1 = p.2)).map (·.1)
theorem sameOf_take {ps : List (Str × Str)} {i : Nat} {a b : Str} (h : ps[i]? = some (a, b)) : sameOf (ps.take (i + 1)) = if a = b then sameOf (ps.take i) ++ [a] else sameOf (ps.take i) := by
  unfold sameOf
  rw [List.take_add_one, h, List.filter_append, List.map_append]
  by_cases e : a = b
  · simp [e]
  · simp [e]
noncomputable def StrVs : List Value → List Str → Prop
  | [], [] => True
  | v :: vs, k :: ks => (∃ t, v = .str k t) ∧ StrVs vs ks
  | _, _ => False
theorem StrVs.snoc {k : Str} {t : Tok} : ∀ {vs : List Value} {ks : List Str}, StrVs vs ks → StrVs (vs ++ [.str k t]) (ks ++ [k])
  | [], [], _ => ⟨⟨t, rfl⟩, trivial⟩
  | _ :: _, _ :: _, ⟨h, r⟩ => ⟨h, r.snoc⟩
theorem StrVs.length : ∀ {vs : List Value} {ks : List Str}, StrVs vs ks → vs.length = ks.length
  | [], [], _ => rfl
  | _ :: _, _ :: _, h => by rw [List.length_cons, List.length_cons, h.2.length]

theorem off1_of {D : Addr} : ∀ {l : Led}, (∀ p ∈ l, p.1 ≠ D) → Off1 D l
  | [], _ => trivial
  | p :: _, h => ⟨h p (.head _), off1_of fun q hq => h q (.tail _ hq)⟩
section
variable {prog : Program} {w : World} {A : Around} {E : Value → Shared → Prop} {s : Shared} {h₀ : Heap} {L : Addr} {m : Str → Option Value} {env : Env}
/-- one turn of the block [elt for x, x₂ in l if c]: the test asks whether the two are one, the item is the first -/
noncomputable def TurnPT (prog : Program) (w : World) (A : Around) (h₀ : Heap) (L : Addr) (m : Str → Option Value) (env : Env) (elt c : Expr) (x x₂ : Str) (scope : Scope) (cl : List (Str × Addr)) (news : Led) (s₂ : Shared) : Prop :=
  ∀ (a b : Str) (t1 t2 : Tok) (I C D : Addr) (oI oC oD : Obj) (m₂ : Str → Option Value) (h : Heap) (tk : Nat) (E' : Value → Shared → Prop), NsObj oC m₂ → m₂ x = some (.str a t1) → m₂ x₂ = some (.str b t2) → Fr h₀ L h m → News h₀ L h ((I, oI) :: (C, oC) :: (D, oD) :: news) →
    wpAny (model prog w) A (isTrue c (compEnvC scope cl C env) (eval c (compEnvC scope cl C env))) (fun ok s' => ok = decide (a = b) ∧ (∃ tk', s' = { s₂ with heap := h, toks := tk' }) ∧ (ok = true →
      wpAny (model prog w) A (eval elt (compEnvC scope cl C env)) (fun y s'' => (∃ t, y = .str a t) ∧ ∃ tk', s'' = { s₂ with heap := h, toks := tk' }) E' s')) E' { s₂ with heap := h, toks := tk }

theorem comp_pairs_test {elt c iter : Expr} {x x₂ : Str} {px px₂ tp : Pos} {kk} {scope : Scope} {cl : List (Str × Addr)} {pos : Pos} {Q : Value → Shared → Prop} (_F₀ : Fr h₀ L s.heap m)
    (hclos : closureFor scope env = pure cl) (hcell : ∀ y ∈ scope.names, y.2 ≠ .cell) (hkind : scope.kind = .function)
    (hnames : ∀ y ∈ scope.names, y.2 = .local → scope.names.lookup y.1 = some .local) (hx : scope.names.lookup x = some .local) (hx₂ : scope.names.lookup x₂ = some .local) (hxx : x ≠ x₂)
    (h : wpAny (model prog w) A (eval iter env) (fun xv s₁ => ∃ l vs n ps news, xv = .ref l ∧ A.handled = none ∧ Fr h₀ L s₁.heap m ∧ News h₀ L s₁.heap news ∧ (l, listOf vs.toArray n) ∈ news ∧ PairsAre news vs ps ∧ vs.length ≤ 1000 ∧
      ∀ s₂ : Shared, (∃ h, s₂ = { s₁ with heap := h }) → TurnPT prog w A h₀ L m env elt c x x₂ scope cl news s₂ ∧
        ∀ D ys h tk, Fr h₀ L h m → News h₀ L h ((D, lst ys) :: news) → Off1 D news → StrVs ys (sameOf ps) → Q (.ref D) { s₂ with heap := h, toks := tk }) E s)
    (hs : ∀ x, foldedSetIterable iter env x = pure x := by intro _; rfl) :
    wpAny (model prog w) A (eval (.ListComp elt [⟨.Tuple [.Name x px, .Name x₂ px₂] kk tp, iter, [c], 0⟩] scope pos) env) Q E s := by
  rw [eval_ListComp]
  refine wpAny_comprehension_free (use := none) rfl hs hclos hkind hnames (wpAny_mono h (fun xv s₁ h₁ => ?_) fun _ _ e => e)
  obtain ⟨l, vs, n, ps, news, rfl, hh, F, N, hl, hps, hsz, R⟩ := h₁
  have hls : s₁.heap.IsList l vs.toArray := ⟨_, (N _ hl).1, rfl, ⟨_, rfl⟩⟩
  have hlt : l < s₁.heap.objs.size := Heap.lt_size (N _ hl).1
  refine wpAny_pyIter_list hls ?_
  -- the iterator I, the list D, the block's own names C
  generalize hI : s₁.heap.objs.size = I at hlt ⊢
  generalize hS : s₁.heap.push { cls := .type "list_iterator", data := .fields #[.ref l, .int 0 0] } = H₁
  obtain ⟨R1, R2⟩ := R { s₁ with heap := H₁ } ⟨_, rfl⟩
  have old1 : ∀ b o, s₁.heap.get? b = some o → H₁.get? b = some o := fun b o e => hS ▸ Heap.get?_push_of_some _ e
  have hit1 : H₁.IsListIter I l 0 := hS ▸ hI ▸ ⟨_, Heap.get?_push_size _ rfl, rfl, rfl⟩
  have sz1 : H₁.objs.size = I + 1 := by rw [← hS, Heap.size_push, hI]
  refine wpAny_newObj_type (wpAny_newFunctionEnv hcell (by intro y hy; simp at hy) (fun h₁ hns₁ hsb₁ => ?_) hkind)
  dsimp only at hns₁ hsb₁ ⊢
  generalize hD' : H₁.objs.size = D at hns₁ hsb₁ ⊢
  generalize hH2 : H₁.push { cls := .type "list", dict := none, data := .seq ([] : List Value).toArray } = H2 at hns₁ hsb₁ ⊢
  generalize hC' : H2.objs.size = C at hns₁ hsb₁ ⊢
  have nID : @LT.lt Nat _ I D := by rw [← hD', sz1]; exact Nat.lt_succ_self _
  have nDC : @LT.lt Nat _ D C := by rw [← hC', ← hH2, Heap.size_push, hD']; exact Nat.lt_succ_self _
  have lowI : ∀ b o, s₁.heap.get? b = some o → @LT.lt Nat _ b I := fun b o e => hI ▸ Heap.lt_size e
  have old : ∀ b o, b ≠ C → H2.get? b = some o → h₁.get? b = some o := fun b o hb e => hsb₁.extBut b o hb (Heap.get?_push_of_some _ e)
  have old2 : ∀ b o, H₁.get? b = some o → h₁.get? b = some o := fun b o e => old b o (Nat.ne_of_lt (Nat.lt_trans (hD' ▸ Heap.lt_size e) nDC)) (hH2 ▸ Heap.get?_push_of_some _ e)
  have keep0 : ∀ b o, s₁.heap.get? b = some o → h₁.get? b = some o := fun b o e => old2 b o (old1 b o e)
  have fresh : ∀ a, @LE.le Nat _ I a → h₀.get? a = none := fun a ha => by
    cases q : h₀.get? a with
    | none => rfl
    | some o => exact absurd (lowI _ _ (F.keep _ _ q)) (Nat.not_lt.mpr ha)
  have I0 := fresh I (Nat.le_refl _)
  have D0 := fresh D (Nat.le_of_lt nID)
  have C0 := fresh C (Nat.le_of_lt (Nat.lt_trans nID nDC))
  have LI : @LT.lt Nat _ L I := hI ▸ F.ns.lt
  have nLI : L ≠ I := Nat.ne_of_lt LI
  have nLD : L ≠ D := Nat.ne_of_lt (Nat.lt_trans LI nID)
  have nLC : L ≠ C := Nat.ne_of_lt (Nat.lt_trans (Nat.lt_trans LI nID) nDC)
  have neID : I ≠ D := Nat.ne_of_lt nID
  have neIC : I ≠ C := Nat.ne_of_lt (Nat.lt_trans nID nDC)
  have neDC : D ≠ C := Nat.ne_of_lt nDC
  have offI : ∀ p ∈ news, p.1 ≠ I := fun p hp => Nat.ne_of_lt (lowI _ _ (N p hp).1)
  have offD : ∀ p ∈ news, p.1 ≠ D := fun p hp => Nat.ne_of_lt (Nat.lt_trans (lowI _ _ (N p hp).1) nID)
  have offC : ∀ p ∈ news, p.1 ≠ C := fun p hp => Nat.ne_of_lt (Nat.lt_trans (Nat.lt_trans (lowI _ _ (N p hp).1) nID) nDC)
  have hacc : h₁.get? D = some (lst []) := old D _ neDC (hH2 ▸ hD' ▸ Heap.get?_push_size _ rfl)
  have nlI : l ≠ I := offI _ hl
  have W := Walks.list (prog := prog) (w := w) hh I l nlI vs.toArray
  have hlen : vs.toArray.size = vs.length := by simp
  rw [hlen] at W
  -- the loop
  have loop : ∀ s₃ : Shared, (∃ tk, s₃ = { s₁ with heap := h₁, toks := tk }) → codeAny (model prog w) A (.compLoop (.ListComp elt [⟨.Tuple [.Name x px, .Name x₂ px₂] kk tp, iter, [c], 0⟩] scope pos) 0 (.ref I) (.ref D) (compEnvC scope cl C env)) (compPost (model prog w) A E none Q (.ref D) C) s₃ := by
    rintro s₃ ⟨tk₃, rfl⟩
    refine kct_loop (fun k s' => ∃ h' tk i ys m', s' = { s₁ with heap := h', toks := tk } ∧ i ≤ vs.length ∧ k = vs.length + 1 - i ∧ h'.IsListIter I l i ∧ Fr h₀ L h' m ∧ h'.Ns C m' ∧ News h₀ L h' ((D, lst ys) :: news) ∧ StrVs ys (sameOf (ps.take i)) ∧ ys.length ≤ i) ?_ (vs.length + 1)
      ⟨h₁, tk₃, 0, [], _, rfl, Nat.zero_le _, rfl, hit1.at fun o e => old2 I o e, F.keeps keep0, hns₁, fun p hp => ?_, trivial, Nat.le_refl _⟩
    · rintro k s' ⟨h', tk, i, ys, m', rfl, hi, rfl, hit, F', hn', N', hys, hyl⟩
      have hls' : h'.IsList l vs.toArray := ⟨_, (N' _ (.tail _ hl)).1, rfl, ⟨_, rfl⟩⟩
      by_cases hlt : i < vs.length
      · refine W.item i _ _ _ hlt ⟨hit, hls'⟩ fun v h₂ tk₂ hPv hst₂ hk₂ => ?_
        have k2 : ∀ b o, b ≠ I → h'.get? b = some o → h₂.get? b = some o := fun b o hb e => hk₂ b o (by simpa using hb) e
        obtain ⟨a, b, ta, t1, t2, hp, rfl, hpa, _, _⟩ := hps.get (by simpa using hPv)
        have F₂ : Fr h₀ L h₂ m := ⟨F'.ns.at' fun o e => k2 L o nLI e, fun b o e => k2 b o (fun q => by rw [q, I0] at e; cases e) (F'.keep b o e), F'.above⟩
        have N₂ : News h₀ L h₂ ((D, lst ys) :: news) := fun p hp => ⟨k2 _ _ (by
          rcases List.mem_cons.mp hp with rfl | hp
          · exact Ne.symm neID
          · exact offI p hp) (N' p hp).1, (N' p hp).2⟩
        have ht : IsTup h₂ ta #[.str a t1, .str b t2] := ⟨_, (N₂ _ (.tail _ hpa)).1, rfl, _, rfl⟩
        refine wpAny_letOwnedTupleGo_listiter hst₂.1 ?_
        refine assign_Tuple_tuple hh ht rfl rfl fun h₅ he => ?_
        have k5 : ∀ b o, h₂.get? b = some o → h₅.get? b = some o := fun b o e => he b o (Nat.ne_of_lt (Heap.lt_size e)) e
        refine assignInOrder_cons (wpAny_assign_Name (wpAny_storeName_local (lookup_relabel_local hx) ((hn'.at' fun o e => k2 C o (Ne.symm neIC) e).at' fun o e => k5 _ o e) (fun h₆ hn₆ hs₆ => ?_) (by simp [compEnvC, relabel, hkind])))
        refine assignInOrder_cons (wpAny_assign_Name (wpAny_storeName_local (lookup_relabel_local hx₂) hn₆ (fun h₃ hn₃ hs₃ => ?_) (by simp [compEnvC, relabel, hkind])))
        refine assignInOrder_nil ?_
        have k3 : ∀ b o, b ≠ C → h₂.get? b = some o → h₃.get? b = some o := fun b o hb e => hs₃.extBut b o hb (hs₆.extBut b o hb (k5 b o e))
        have F₃ : Fr h₀ L h₃ m := ⟨F₂.ns.at' fun o e => k3 L o nLC e, fun b o e => k3 b o (fun q => by rw [q, C0] at e; cases e) (F₂.keep b o e), F₂.above⟩
        obtain ⟨oI, eI, iI⟩ := hst₂.1
        obtain ⟨oC, eC, hoC⟩ := ns_obj hn₃
        have N₃ : News h₀ L h₃ ((I, oI) :: (C, oC) :: (D, lst ys) :: news) := fun p hp => by
          rcases List.mem_cons.mp hp with rfl | hp
          · exact ⟨k3 I _ neIC eI, Ne.symm nLI, I0⟩
          · rcases List.mem_cons.mp hp with rfl | hp
            · exact ⟨eC, Ne.symm nLC, C0⟩
            · refine ⟨k3 _ _ ?_ (N₂ p hp).1, (N₂ p hp).2⟩
              rcases List.mem_cons.mp hp with rfl | hp
              · exact neDC
              · exact offC p hp
        have it3 : h₃.IsListIter I l (i + 1) := ⟨oI, k3 I _ neIC eI, iI⟩
        have tak := sameOf_take hp
        refine wpAny_mono (R1 a b t1 t2 I C D oI oC (lst ys) _ h₃ _ _ hoC (by simp [hxx]) (by simp) F₃ N₃) (fun ok s₃ q => ?_) fun _ _ e => e
        obtain ⟨hok, ⟨tk₄, rfl⟩, qe⟩ := q
        by_cases hab : a = b
        · have ht : ok = true := by rw [hok]; exact decide_eq_true hab
          subst ht
          simp only [if_true]
          refine wpAny_mono (qe rfl) (fun y s₄ q => ?_) fun _ _ e => e
          obtain ⟨⟨ty, rfl⟩, tk₅, rfl⟩ := q
          have zD := (N₃ _ (.tail _ (.tail _ (.head _)))).1
          refine append_at (hsz := by show ys.toArray.size ≤ sizeLine; rw [List.size_toArray, sizeLine_eq]; omega) zD fun h₇ hs₇ hD₇ => ?_
          have k7 : ∀ b o, b ≠ D → h₃.get? b = some o → h₇.get? b = some o := fun b o hb e => hs₇.extBut b o hb e
          refine ⟨vs.length + 1 - (i + 1), by omega, h₇, _, i + 1, ys ++ [.str a ty], _, rfl, hlt, rfl, ⟨oI, k7 I _ neID (k3 I _ neIC eI), iI⟩, ⟨F₃.ns.at' fun o e => k7 L o nLD e, fun b o e => k7 b o (fun q => by rw [q, D0] at e; cases e) (F₃.keep b o e), F₃.above⟩,
            hn₃.at' fun o e => k7 C o (Ne.symm neDC) e, fun p hp => ?_, ?_, by rw [List.length_append, List.length_singleton]; omega⟩
          · rcases List.mem_cons.mp hp with rfl | hp
            · exact ⟨hD₇.trans (congrArg some (lst_snoc ys _)), Ne.symm nLD, D0⟩
            · exact ⟨k7 _ _ (offD p hp) (N₃ _ (.tail _ (.tail _ (.tail _ hp)))).1, (N p hp).2⟩
          · rw [tak, if_pos hab]
            exact hys.snoc
        · have ht : ok = false := by rw [hok]; exact decide_eq_false hab
          subst ht
          simp only [Bool.false_eq_true, if_false]
          refine ⟨vs.length + 1 - (i + 1), by omega, h₃, _, i + 1, ys, _, rfl, hlt, rfl, it3, F₃, hn₃, fun p hp => N₃ p (.tail _ (.tail _ hp)), ?_, by omega⟩
          rw [tak, if_neg hab]
          exact hys
      · have hin : i = vs.length := by omega
        subst hin
        refine W.done _ _ _ ⟨hit, hls'⟩ fun h₂ tk₂ hk₂ => ?_
        have k2 : ∀ b o, b ≠ I → h'.get? b = some o → h₂.get? b = some o := fun b o hb e => hk₂ b o (by simpa using hb) e
        rw [hps.length, List.take_length] at hys
        have hn₂ := hn'.at' fun o e => k2 C o (Ne.symm neIC) e
        refine ⟨m', hn₂, fun h₃ hs₃ => ?_⟩
        have k3 : ∀ b o, b ≠ C → h₂.get? b = some o → h₃.get? b = some o := fun b o hb e => hs₃.extBut b o hb e
        refine R2 D ys h₃ _ ⟨F'.ns.at' fun o e => k3 L o nLC (k2 L o nLI e), fun b o e => k3 b o (fun q => by rw [q, C0] at e; cases e) (k2 b o (fun q => by rw [q, I0] at e; cases e) (F'.keep b o e)), F'.above⟩ (fun p hp => ⟨?_, (N' p hp).2⟩) ?_ hys
        · rcases List.mem_cons.mp hp with rfl | hp'
          · exact k3 _ _ neDC (k2 _ _ (Ne.symm neID) (N' _ hp).1)
          · exact k3 _ _ (offC p hp') (k2 _ _ (offI p hp') (N' p hp).1)
        · exact off1_of offD
    · rcases List.mem_cons.mp hp with rfl | hp
      · exact ⟨hacc, Ne.symm nLD, D0⟩
      · exact ⟨keep0 _ _ (N p hp).1, (N p hp).2⟩
  exact codeAny_compStart_list (loop _ ⟨_, rfl⟩) (W.self 0 _ _ _ ⟨hit1.at fun o e => old2 I o e, hls.at fun o e => keep0 l o e⟩ (loop _ ⟨_, rfl⟩))

open PyProof.Rows.LCp in
theorem compRestP_inv {elt : Expr} {x x₂ : Str} {scope : Scope} {cl : List (Str × Addr)} {S : Led → Prop} {P : Nat → Value → Prop} {Fin : List Value → Led → Prop} {n : Nat} (Inv : Nat → List Value → Led → Prop)
    (step : ∀ i ys news, i < n → Inv i ys news → ∀ v, P i v → ∃ (t : Addr) (ot : Obj) (v₁ v₂ : Value) (nt : Nat), v = .ref t ∧ (t, ot) ∈ news ∧ ot.cls = .type "tuple" ∧ ot.data = .seq #[v₁, v₂] nt ∧
      ∀ I oI C oC D m₂ h tk (E' : Value → Shared → Prop), NsObj oC m₂ → m₂ x = some v₁ → m₂ x₂ = some v₂ → Fr h₀ L h m → News h₀ L h ((I, oI) :: (C, oC) :: (D, lst ys) :: news) → Off3 I C D news → ((@Ne Nat I C) ∧ (@Ne Nat I D) ∧ (@Ne Nat C D)) →
      wpAny (model prog w) A (eval elt (compEnvC scope cl C env)) (CompEnd h₀ L m { s with heap := h, toks := tk } I oI C oC D (lst ys) S (fun y news' => Inv (i + 1) (ys ++ [y]) news')) E' { s with heap := h, toks := tk })
    (fin : ∀ ys news, Inv n ys news → Fin ys news) {news : Led} (h0 : Inv 0 [] news) : CompRestP prog w A h₀ L m env elt x x₂ scope cl s S P Fin n 0 [] news := by
  have all : ∀ k i ys news, k + i = n → Inv i ys news → CompRestP prog w A h₀ L m env elt x x₂ scope cl s S P Fin k i ys news := by
    intro k
    induction k with
    | zero => intro i ys news e hI; exact CompRestP.zero (fin _ _ (by rwa [show n = i by omega]))
    | succ k ih =>
      intro i ys news e hI
      refine CompRestP.succ fun v hv => ?_
      obtain ⟨t, ot, v₁, v₂, nt, q1, q2, q3, q4, q5⟩ := step i ys news (by omega) hI v hv
      exact ⟨t, ot, v₁, v₂, nt, q1, q2, q3, q4, fun I oI C oC D m₂ h tk E' a b c d f g j => wpAny_mono (q5 I oI C oC D m₂ h tk E' a b c d f g j) (fun y s₂ q => cend_mono (fun nw r => ih _ _ _ (by omega) r) q) fun _ _ e => e⟩
  exact all n 0 [] news (by omega) h0
end
end
section
open PySem PySem.Spec PySem.Calls PySem.W PyProof.Rows PyProof.Rows.LCg

theorem nm_ok {x : Str} (h : isNm x) : PyData.strOk x = true := by
  rcases h with rfl | rfl | rfl | rfl <;> decide +kernel
noncomputable def askD (qs : List (Str × Bool)) : List PyData := qs.map fun p => .tuple [.str p.1, .bool p.2]
theorem reads_ask {g h : Heap} {L : Addr} {news : Led} (N : News g L h news) : ∀ {vs : List Value} {qs : List (Str × Bool)}, AskAre news vs qs → ReadsAll h vs (askD qs) []
  | [], [], _ => .nil
  | _ :: _, _ :: _, ⟨⟨a, t, e, hm⟩, r⟩ => by
    subst e
    exact ReadsAll.cons (as := []) (bs := []) (reads_tuple_at (N _ hm).1 rfl rfl (ReadsAll.cons (as := []) (bs := []) (.str _ _) (ReadsAll.cons (as := []) (bs := []) (.bool _) .nil))) (reads_ask N r)
theorem ask_lay : ∀ {qs : List (Str × Bool)}, (∀ p ∈ qs, isNm p.1) → PyData.canLayAll0 (askD qs) = true ∧ PyData.depthAll (askD qs) ≤ 1
  | [], _ => ⟨rfl, Nat.zero_le _⟩
  | p :: r, h => by
    obtain ⟨a, b⟩ := ask_lay (qs := r) fun q hq => h q (.tail _ hq)
    constructor
    · show (PyData.canLayAll0 [PyData.str p.1, PyData.bool p.2] && PyData.canLayAll0 (askD r)) = true
      rw [a, Bool.and_true]
      simp [PyData.canLayAll0, PyData.canLay0, nm_ok (h p (.head _))]
    · show max (PyData.depth (.tuple [PyData.str p.1, PyData.bool p.2])) (PyData.depthAll (askD r)) ≤ 1
      refine Nat.max_le.mpr ⟨?_, b⟩
      simp [PyData.depth, PyData.depthAll]
theorem ask_eqv : ∀ qs : List (Str × Bool), PyData.eqvAll (askD qs) (askD qs) = true
  | [] => rfl
  | p :: r => by
    show (PyData.eqvAll [PyData.str p.1, PyData.bool p.2] [PyData.str p.1, PyData.bool p.2] && PyData.eqvAll (askD r) (askD r)) = true
    rw [ask_eqv r]
    simp [PyData.eqvAll, PyData.eqv]

section
variable {prog : Program} {w : World} {A : Around} {E : Value → Shared → Prop} {s : Shared} {h₀ : Heap} {L a b : Addr} {news : Led} {Q : Value → Shared → Prop} {xs ys : List Value} {ka kb : Nat}
theorem ne_asked {qs : List (Str × Bool)} (N : News h₀ L s.heap news) (ma : (a, listOf xs.toArray ka) ∈ news) (mb : (b, listOf ys.toArray kb) ∈ news) (ha : AskAre news xs qs) (hb : AskAre news ys qs) (hq : ∀ p ∈ qs, isNm p.1) (hu : A.units + 64 < cLine) (h : Q (.bool false) s) :
    wpAny (model prog w) A (compareOp .NotEq (.ref a) (.ref b)) Q E s := by
  have sh : SeqAt.shaped (.list (askD qs)) = true := by
    obtain ⟨l1, l2⟩ := ask_lay hq
    unfold SeqAt.shaped
    simp only [PyData.canLay0, PyData.depth, l1, Bool.true_and]
    exact decide_eq_true (Nat.le_trans (Nat.succ_le_succ l2) (by decide))
  refine ne_dataH (reads_list_at (N _ ma).1 rfl rfl (by simpa using reads_ask N ha)) (reads_list_at (N _ mb).1 rfl rfl (by simpa using reads_ask N hb)) sh sh hu ?_
  rw [PyData.eqv, ask_eqv]
  exact h
theorem reads_strs {hp : Heap} : ∀ {vs : List Value} {ks : List Str}, StrVs vs ks → ReadsAll hp vs (ks.map PyData.str) []
  | [], [], _ => .nil
  | _ :: _, _ :: _, ⟨⟨t, e⟩, r⟩ => by
    subst e
    exact ReadsAll.cons (as := []) (bs := []) (.str _ _) (reads_strs r)
theorem strs_lay : ∀ {ks : List Str}, (∀ k ∈ ks, isNm k) → PyData.canLayAll0 (ks.map PyData.str) = true ∧ PyData.depthAll (ks.map PyData.str) ≤ 1
  | [], _ => ⟨rfl, Nat.zero_le _⟩
  | k :: r, h => by
    obtain ⟨a, b⟩ := strs_lay (ks := r) fun q hq => h q (.tail _ hq)
    constructor
    · show (PyData.strOk k && PyData.canLayAll0 (r.map PyData.str)) = true
      rw [a, nm_ok (h k (.head _))]
      rfl
    · show max 0 (PyData.depthAll (r.map PyData.str)) ≤ 1
      exact Nat.max_le.mpr ⟨Nat.zero_le _, b⟩
theorem strs_shaped {ks : List Str} (h : ∀ k ∈ ks, isNm k) : SeqAt.shaped (.list (ks.map PyData.str)) = true := by
  obtain ⟨l1, l2⟩ := strs_lay h
  unfold SeqAt.shaped
  simp only [PyData.canLay0, PyData.depth, l1, Bool.true_and]
  exact decide_eq_true (Nat.le_trans (Nat.succ_le_succ l2) (by decide))
theorem eqv_nil (ks : List Str) : PyData.eqv (.list (ks.map PyData.str)) (.list []) = decide (ks = []) := by
  cases ks with
  | nil => rfl
  | cons k r => rfl
theorem eq_none {ks : List Str} (N : News h₀ L s.heap news) (ma : (a, listOf xs.toArray ka) ∈ news) (mb : (b, listOf ([] : List Value).toArray kb) ∈ news) (ha : StrVs xs ks) (hq : ∀ k ∈ ks, isNm k) (hu : A.units + 64 < cLine) (h : Q (.bool (decide (ks = []))) s) :
    wpAny (model prog w) A (compareOp .Eq (.ref a) (.ref b)) Q E s := by
  refine eq_dataH (reads_list_at (N _ ma).1 rfl rfl (by simpa using reads_strs ha)) (reads_list_at (xs := []) (N _ mb).1 rfl rfl (by simpa using ReadsAll.nil)) (strs_shaped hq) (strs_shaped (ks := []) (by simp)) hu ?_
  rw [eqv_nil]
  exact h
theorem ne_none (N : News h₀ L s.heap news) (ma : (a, listOf ([] : List Value).toArray ka) ∈ news) (mb : (b, listOf ([] : List Value).toArray kb) ∈ news) (hu : A.units + 64 < cLine) (h : Q (.bool false) s) :
    wpAny (model prog w) A (compareOp .NotEq (.ref a) (.ref b)) Q E s :=
  ne_dataH (reads_list_at (xs := []) (N _ ma).1 rfl rfl (by simpa using ReadsAll.nil)) (reads_list_at (xs := []) (N _ mb).1 rfl rfl (by simpa using ReadsAll.nil)) (strs_shaped (ks := []) (by simp)) (strs_shaped (ks := []) (by simp)) hu h
theorem ne_plain {oa ob : Obj} {f g : Str → Value} {V U : Str → Int} (N : News h₀ L s.heap news) (ma : (a, oa) ∈ news) (mb : (b, ob) ∈ news) (da : oa.IsDictOf (PySem.strKind prog w) (d4 f)) (db : ob.IsDictOf (PySem.strKind prog w) (d4 g)) (hf : Ints f V) (hg : Ints g U) (hVU : ∀ x, isNm x → V x = U x)
    (la : (a == sysModules) = false) (lb : (b == sysModules) = false) (hu : A.units < cLine) (h : Q (.bool false) s) : wpAny (model prog w) A (compareOp .NotEq (.ref a) (.ref b)) Q E s := by
  have one : ∀ x, isNm x → ∀ {r : List (Str × Value)}, KeqHits A.in1 s (d4 g) r true → KeqHits A.in1 s (d4 g) ((x, f x) :: r) true := fun x hx r hr => by
    obtain ⟨t, e⟩ := hf x
    obtain ⟨u, e'⟩ := hg x
    rw [e]
    have q : SeqAt.EqAt A.in1 s (.int (V x) t) (.int (U x) u) (PyData.eqv (.int (V x)) (.int (U x))) := keq_flat (.int _ _) (.int _ _)
    have e2 : PyData.eqv (.int (V x)) (.int (U x)) = true := by rw [hVU x hx]; simp [PyData.eqv]
    rw [e2] at q
    exact KeqHits.hit (d4_get hx e') q hr
  refine kne_pairs (r := true) N ma mb da db la lb rfl hu ?_ h
  exact one sA (.inl rfl) (one sB (.inr (.inl rfl)) (one sC (.inr (.inr (.inl rfl))) (one sD (.inr (.inr (.inr rfl))) .nil)))
end
end
section
open PySem PySem.W PyProof.Rows PyProof.Rows.LCg
theorem len_take_map {α : Type} (f : Int → α) (l : List Int) : (List.map f (List.take 24 l)).length ≤ 24 := by rw [List.length_map, List.length_take]; omega

section
variable {w : World} {p : Program} {loose : List Str} {mean : ExcName → Option Value} {mg mb : Str → Option Value}
  {dp un : Nat} {gd : Option (List Code)} {cn : Str} {cs : Scope} {a : Addr} {ccd : Value} {cl : List (Str × Addr)} {outer : List Env} {A₀ : Around} {base h₀ : Heap} {L : Addr} {m : Str → Option Value} {s : Shared} {Q E : Value → Shared → Prop} {news : Led}
theorem take_call {P : Addr} {vs : List Value} {ns : List Int} {n : Nat} {k : Int} {t : Tok} {g : Obj → Led}
    (B : Below A₀ base outer h₀) (F : Fr h₀ L s.heap m) (X : (hd.heap_39 w.params).In h₀) (N : News h₀ L s.heap news) (T : Top p loose mean mg mb h₀) (hk : cs.kind = .function)
    (U : UpdF P (listOf vs.toArray n) news g) (hI : IntsAre vs ns) (hlen : ns.length ≤ 24) (hk1 : 0 < k) (hk2 : k ≤ 20001) (hd : dp + 1 < recursionLimit) (hu : un + 8 < cLine)
    (ret : ∀ d t' vs' ns' n' h' tk', 0 ≤ d → d < k → Fr h₀ L h' m → News h₀ L h' (g (listOf vs'.toArray n')) → IntsAre vs' ns' → ns'.length ≤ 24 → Q (.int d t') { s with heap := h', toks := tk' }) :
    wpAny (model PR w) (ktrTop dp un gd cn cs L a ccd cl outer) (call (.ref 148) [.ref P, .int k t]) Q E s := by
  obtain ⟨pre, post, rfl, hg, u1, u2⟩ := U.split
  refine tells_call B F X (news := (P, listOf vs.toArray n) :: (pre ++ post)) (News.sub N fun q hq => ?_) T hk (take_tells P vs ns n k t (pre ++ post) hI hlen hk1 hk2 fun q hq => ?_) hd hu fun r h' tk' news' F' N' hr => ?_
  · rcases List.mem_cons.mp hq with rfl | hq
    · exact List.mem_append.mpr (.inr (.head _))
    · exact List.mem_append.mpr ((List.mem_append.mp hq).imp id (.tail _))
  · exact (List.mem_append.mp hq).elim (u1 q) (u2 q)
  · obtain ⟨d, t', vs', ns', n', rfl, h1, h2, rfl, h3, h4⟩ := hr
    refine ret d t' vs' ns' n' h' tk' h1 h2 F' (News.sub N' fun q hq => ?_) h3 h4
    rw [hg] at hq
    rcases List.mem_append.mp hq with hq | hq
    · exact .tail _ (List.mem_append.mpr (.inl hq))
    · rcases List.mem_cons.mp hq with rfl | hq
      · exact .head _
      · exact .tail _ (List.mem_append.mpr (.inr hq))
theorem dec_call {u sc : Int} {tu ts : Tok}
    (B : Below A₀ base outer h₀) (F : Fr h₀ L s.heap m) (X : (hd.heap_39 w.params).In h₀) (N : News h₀ L s.heap news) (T : Top p loose mean mg mb h₀) (hk : cs.kind = .function)
    (h0 : 0 ≤ sc) (h6 : sc ≤ 6) (hd : dp + 1 < recursionLimit) (hu : un + 8 < cLine)
    (ret : ∀ c u' s' t1 t2 h' tk', Fr h₀ L h' m → News h₀ L h' ((c, iTup [.int u' t1, .int s' t2]) :: news) → isDec u' s' (u * p10 (6 - sc)) → (∀ q ∈ news, q.1 < c) → Q (.ref c) { s with heap := h', toks := tk' }) :
    wpAny (model PR w) (ktrTop dp un gd cn cs L a ccd cl outer) (call (.ref 70) [.int u tu, .int sc ts]) Q E s := by
  refine tells_call B F X N T hk (dec_tells u sc tu ts news h0) hd hu fun r h' tk' news' F' N' hr => ?_
  obtain ⟨c, t1, t2, rfl, rfl, l⟩ := hr
  have e : ((sc.toNat : Nat) : Int) = sc := by omega
  have d := normD_dec sc.toNat u (by omega)
  rw [e] at d
  exact ret c _ _ t1 t2 h' tk' F' N' d l
end
theorem p10_le6 {e : Int} (h : e ≤ 6) : p10 e ≤ 1000000 := by
  have h1 := p10_le h
  have h2 : p10 6 = 1000000 := by decide
  omega
theorem first_bound {u sc : Int} (h1 : -10000 ≤ u) (h2 : u ≤ 10000) (h0 : 0 ≤ sc) : ab (u * p10 (6 - sc)) ≤ 10000000000 := by
  have hp := p10_pos (6 - sc)
  have hq := p10_le6 (e := 6 - sc) (by omega)
  have a1 : u * p10 (6 - sc) ≤ 10000 * p10 (6 - sc) := Int.mul_le_mul_of_nonneg_right h2 (Int.le_of_lt hp)
  have a2 : -10000 * p10 (6 - sc) ≤ u * p10 (6 - sc) := Int.mul_le_mul_of_nonneg_right h1 (Int.le_of_lt hp)
  unfold ab
  split <;> omega
end
section
open PySem PySem.W PyProof.Rows
/-- what stands behind the first loop: four numbers, four bounds -/
noncomputable def Post1 (g : Heap) (L : Addr) (w : World) (o2 o3 : Obj) (s : Shared) (fl : Flow) (s' : Shared) : Prop :=
  fl = .next ∧ ∃ h tk m P vs ns n H oH Bd oB f gB V B tl oc, s' = { s with heap := h, toks := tk } ∧ Fr g L h m ∧ m (Str.ofString "pool") = some (.ref P) ∧ m (Str.ofString "bounds") = some (.ref Bd) ∧
    News g L h ((P, listOf (vs : List Value).toArray n) :: (150, tabObj #[]) :: (H, oH) :: (Bd, oB) :: (L + 1, oc) :: (L + 1 + 1, o2) :: (L + 1 + 1 + 1, o3) :: tl) ∧ oc.data = .cell (some (.ref H)) ∧
    IntsAre vs ns ∧ ns.length ≤ 24 ∧ oH.IsDictOf (PySem.strKind PR w) (d4 f) ∧ HeldAt tl f V ∧ (∀ x, isNm x → ab (V x) ≤ 10000000000) ∧ oB.IsDictOf (PySem.strKind PR w) (d4 gB) ∧ Ints gB B ∧ (H == sysModules) = false ∧
    (@LT.lt Nat _ 150 L ∧ (@Ne Nat (L + 1) P ∧ @Ne Nat (L + 1 + 1) P ∧ @Ne Nat (L + 1 + 1 + 1) P ∧ @Ne Nat 150 P ∧ @LT.lt Nat _ (L + 1 + 1 + 1) H) ∧ @LT.lt Nat _ P H ∧ @LT.lt Nat _ H Bd) ∧ ∀ p ∈ tl, @LT.lt Nat _ Bd p.1
theorem phase1 {g : Heap} {L : Addr} {w : World} {o2 o3 : Obj} {s : Shared} {m : Str → Option Value} {A : Around} {t : Sem Flow} {Q : Flow → Shared → Prop} {E : Value → Shared → Prop} {r : Led} (_F : Fr g L s.heap m) (_N : News g L s.heap r) (_h2 : (L + 1 + 1, o2) ∈ r) (_h3 : (L + 1 + 1 + 1, o3) ∈ r)
    (h1 : wpAny (model PR w) A t (Post1 g L w o2 o3 s) E s) (h2 : ∀ s', Post1 g L w o2 o3 s .next s' → Q .next s') : wpAny (model PR w) A t Q E s :=
  wpAny_mono h1 (fun f s' p => by obtain ⟨rfl, r⟩ := p; exact h2 s' ⟨rfl, r⟩) fun _ _ e => e
theorem map2id {m : Str → Option Value} {a b : Str} {u v : Value} (h1 : m a = some u) (h2 : m b = some v) : m = fun z => if z = a then some u else if z = b then some v else m z := by
  funext z
  by_cases e1 : z = a
  · rw [if_pos e1, e1, h1]
  by_cases e2 : z = b
  · rw [if_neg e1, if_pos e2, e2, h2]
  rw [if_neg e1, if_neg e2]
theorem map3id {m : Str → Option Value} {a b c : Str} {u v w : Value} (h1 : m a = some u) (h2 : m b = some v) (h3 : m c = some w) : m = fun z => if z = a then some u else if z = b then some v else if z = c then some w else m z := by
  funext z
  by_cases e1 : z = a
  · rw [if_pos e1, e1, h1]
  by_cases e2 : z = b
  · rw [if_neg e1, if_pos e2, e2, h2]
  by_cases e3 : z = c
  · rw [if_neg e1, if_neg e2, if_pos e3, e3, h3]
  rw [if_neg e1, if_neg e2, if_neg e3]
theorem off_lt {tl : Led} {b x : Addr} (h : ∀ p ∈ tl, @LT.lt Nat _ b p.1) (hx : @LE.le Nat _ x b) : ∀ p ∈ tl, p.1 ≠ x := fun p hp e => by
  have := h p hp
  rw [e] at this
  exact absurd (Nat.lt_of_le_of_lt hx this) (Nat.lt_irrefl _)

/-- the pair loop's state after i turns -/
noncomputable def PairJ (Pr L : Addr) (oH oB oc o2 o3 : Obj) (H Bd P : Addr) (tl : Led) (i : Nat) (m : Str → Option Value) (nx : Led) : Prop :=
  ∃ vs ns n pv np ps tl', nx = (Pr, listOf (pv : List Value).toArray np) :: (P, listOf (vs : List Value).toArray n) :: (150, tabObj #[]) :: (H, oH) :: (Bd, oB) :: (L + 1, oc) :: (L + 1 + 1, o2) :: (L + 1 + 1 + 1, o3) :: tl' ∧ IntsAre vs ns ∧ ns.length ≤ 24 ∧
    PairsAre tl' pv ps ∧ ps.length = i ∧ (∀ p ∈ tl, p ∈ tl') ∧ (∀ p ∈ tl', @LT.lt Nat _ Bd p.1 ∧ p.1 ≠ Pr) ∧ m (Str.ofString "pairs") = some (.ref Pr) ∧ m (Str.ofString "pool") = some (.ref P) ∧ m (Str.ofString "bounds") = some (.ref Bd)
theorem PairsAre.snoc {news : Led} {a : Addr} {x y : Str} {t1 t2 : Tok} (hm : (a, iTup [.str x t1, .str y t2]) ∈ news) (hx : isNm x) (hy : isNm y) : ∀ {vs : List Value} {ps : List (Str × Str)}, PairsAre news vs ps → PairsAre news (vs ++ [.ref a]) (ps ++ [(x, y)])
  | [], [], _ => ⟨⟨a, t1, t2, rfl, hm, hx, hy⟩, trivial⟩
  | _ :: _, _ :: _, h => ⟨h.1, h.2.snoc hm hx hy⟩
theorem tl_lt {tl : Led} {b : Addr} (h : AllLt b tl) : ∀ p ∈ tl, p.1 ≠ b := fun p hp => Nat.ne_of_lt (tb_ltOf h p hp)

section
variable {prog : Program} {w : World} {A : Around} {E : Value → Shared → Prop} {s : Shared} {env : Env} {g : Heap} {body : List Stmt} {Q : Flow → Shared → Prop}
theorem map4id {m : Str → Option Value} {x a b c : Str} {t u v w : Value} (h1 : m a = some u) (h2 : m b = some v) (h3 : m c = some w) : (fun z => if z = x then some t else m z) = fun z => if z = x then some t else if z = a then some u else if z = b then some v else if z = c then some w else m z := by
  funext z
  by_cases e : z = x
  · rw [if_pos e, if_pos e]
  rw [if_neg e, if_neg e]
  exact congrFun (map3id h1 h2 h3) z
noncomputable abbrev turnMap (k : Int) (t : Tok) (Pr P Bd : Addr) (m : Str → Option Value) : Str → Option Value := fun z => if z = Str.ofString "turn" then some (.int k t) else if z = Str.ofString "pairs" then some (.ref Pr) else if z = Str.ofString "pool" then some (.ref P) else if z = Str.ofString "bounds" then some (.ref Bd) else m z
theorem pair_loop {r Pr L H Bd P : Addr} {oH oB oc o2 o3 : Obj} {tl : Led} {d : Int} {t₀ u₀ v₀ : Tok} {m₀ : Str → Option Value} {vs₀ : List Value} {ns₀ : List Int} {n₀ : Nat}
    (hh : A.handled = none) (hr : IsRange s.heap r 0 d 1 t₀ u₀ v₀) (hd0 : 0 ≤ d) (hd : d < 7) (F : Fr g env.locals s.heap m₀)
    (N : News g env.locals s.heap ((Pr, listOf #[] 0) :: (P, listOf vs₀.toArray n₀) :: (150, tabObj #[]) :: (H, oH) :: (Bd, oB) :: (L + 1, oc) :: (L + 1 + 1, o2) :: (L + 1 + 1 + 1, o3) :: tl))
    (hI : IntsAre vs₀ ns₀) (hl : ns₀.length ≤ 24) (c5 : ∀ p ∈ tl, @LT.lt Nat _ Bd p.1) (hPr : ∀ p ∈ tl, p.1 ≠ Pr) (hPB : @LT.lt Nat _ P Bd) (m1 : m₀ (Str.ofString "pairs") = some (.ref Pr)) (m2 : m₀ (Str.ofString "pool") = some (.ref P)) (m3 : m₀ (Str.ofString "bounds") = some (.ref Bd))
    (turn : ∀ i k t vs ns n pv np ps tl' T m h tk own, i < d.toNat → IntsAre vs ns → ns.length ≤ 24 → PairsAre tl' pv ps → ps.length = i → (∀ p ∈ tl, p ∈ tl') → (∀ p ∈ tl', @LT.lt Nat _ Bd p.1 ∧ p.1 ≠ Pr) → pv.length ≤ 1000 →
      TbOff own ((Pr, listOf pv.toArray np) :: (P, listOf (vs : List Value).toArray n) :: (150, tabObj #[]) :: (H, oH) :: (Bd, oB) :: (L + 1, oc) :: (L + 1 + 1, o2) :: (L + 1 + 1 + 1, o3) :: tl') → (∀ p ∈ tl', p ∈ T) → (∀ p ∈ own, p ∈ T) → (∀ p ∈ T, p.1 ≠ Pr) → (∀ p ∈ T, p.1 ≠ P) →
      Fr g env.locals h (turnMap k t Pr P Bd m) →
      News g env.locals h ((Pr, listOf pv.toArray np) :: (P, listOf vs.toArray n) :: (150, tabObj #[]) :: (H, oH) :: (Bd, oB) :: (L + 1, oc) :: (L + 1 + 1, o2) :: (L + 1 + 1 + 1, o3) :: T) →
      wpAny (model prog w) A (execs body env) (TbPost g env.locals (PairJ Pr L oH oB oc o2 o3 H Bd P tl (i + 1)) own { s with heap := h, toks := tk } Q) E { s with heap := h, toks := tk })
    (done : ∀ vs ns n pv np ps tl' (m : Str → Option Value) h tk, IntsAre vs ns → ns.length ≤ 24 → PairsAre tl' pv ps → ps.length ≤ 6 → (∀ p ∈ tl, p ∈ tl') → (∀ p ∈ tl', @LT.lt Nat _ Bd p.1 ∧ p.1 ≠ Pr) →
      Fr g env.locals h (fun z => if z = Str.ofString "pairs" then some (.ref Pr) else if z = Str.ofString "pool" then some (.ref P) else if z = Str.ofString "bounds" then some (.ref Bd) else m z) →
      News g env.locals h ((Pr, listOf (pv : List Value).toArray np) :: (P, listOf (vs : List Value).toArray n) :: (150, tabObj #[]) :: (H, oH) :: (Bd, oB) :: (L + 1, oc) :: (L + 1 + 1, o2) :: (L + 1 + 1 + 1, o3) :: tl') → Q .next { s with heap := h, toks := tk }) :
    wpAny (model prog w) A (pyIter (.ref r)) (fun it s₂ => LoopAtV prog w A g env (Str.ofString "turn") body Q E it s₂) E s := by
  refine tbr_invG (PairJ Pr L oH oB oc o2 o3 H Bd P tl) (n := d.toNat) hh hr (small_one (by omega) (by omega) (by omega) (by omega)) (by rw [rangeSize_nat]; congr 1; omega) F N ⟨vs₀, ns₀, n₀, [], 0, [], tl, rfl, hI, hl, trivial, rfl, fun _ h => h, fun p hp => ⟨c5 p hp, hPr p hp⟩, m1, m2, m3⟩ ?_ ?_
  · rintro i k t m₁ nx h tk own hk hoff ⟨vs, ns, n, pv, np, ps, tl', rfl, e1, e2, e3, e4, e5, e6, e7, e8, e9⟩ F₁ N₁
    rw [map4id e7 e8 e9] at F₁
    have hi : i < d.toNat := by
      have := (List.getElem?_eq_some_iff.mp hk).1
      simpa [rangeKs] using this
    refine turn i k t vs ns n pv np ps tl' (tl' ++ own) m₁ h tk own hi e1 e2 e3 e4 e5 e6 (by rw [e3.length]; omega) hoff (fun p hp => List.mem_append.mpr (.inl hp)) (fun p hp => List.mem_append.mpr (.inr hp)) (fun p hp => ?_) (fun p hp => ?_) F₁ N₁
    · rcases List.mem_append.mp hp with hp | hp
      · exact (e6 p hp).2
      · exact hoff p hp _ (.head _)
    · rcases List.mem_append.mp hp with hp | hp
      · exact Ne.symm (Nat.ne_of_lt (Nat.lt_trans hPB (e6 p hp).1))
      · exact hoff p hp _ (.tail _ (.head _))
  · rintro m₁ nx h tk ⟨vs, ns, n, pv, np, ps, tl', rfl, e1, e2, e3, e4, e5, e6, e7, e8, e9⟩ F₁ N₁
    rw [map3id e7 e8 e9] at F₁
    exact done vs ns n pv np ps tl' m₁ h tk e1 e2 e3 (by omega) e5 e6 F₁ N₁
theorem fcons {P : Addr × Obj → Prop} {a : Addr × Obj} {tl : Led} (h1 : P a) (h2 : ∀ z ∈ tl, P z) : ∀ z ∈ (a :: tl : Led), P z := fun z hz => by
  rcases List.mem_cons.mp hz with rfl | hz
  · exact h1
  · exact h2 z hz
theorem pair_end {Pr L H Bd P : Addr} {oH oB oc o2 o3 : Obj} {tl tl' T own all : Led} {i : Nat} {m' : Str → Option Value} {vs pv : List Value} {ns : List Int} {n np np' n' : Nat} {ps : List (Str × Str)} {q : Addr} {x y : Str} {t1 t2 : Tok} {s₁ : Shared} {h' : Heap} {tk : Nat} {vs' : List Value}
    (F : Fr g env.locals h' m') (N : News g env.locals h' all)
    (hI : IntsAre vs ns) (hl : ns.length ≤ 24) (hps : PairsAre tl' pv ps) (hpl : ps.length = i) (hx : isNm x) (hy : isNm y) (hs : ∀ p ∈ tl, p ∈ tl') (ho : ∀ p ∈ tl', @LT.lt Nat _ Bd p.1 ∧ p.1 ≠ Pr)
    (hoff : TbOff own ((Pr, listOf pv.toArray np) :: (P, listOf vs'.toArray n') :: (150, tabObj #[]) :: (H, oH) :: (Bd, oB) :: (L + 1, oc) :: (L + 1 + 1, o2) :: (L + 1 + 1 + 1, o3) :: tl')) (hT : ∀ p ∈ tl', p ∈ T) (hO : ∀ p ∈ own, p ∈ T) (lT : AllLt q T) (lB : @LT.lt Nat _ Bd q) (lP : @LT.lt Nat _ Pr q)
    (k1 : (q, iTup [.str x t1, .str y t2]) ∈ all) (k2 : (Pr, listOf (pv ++ [Value.ref q]).toArray np') ∈ all) (k3 : (P, listOf vs.toArray n) ∈ all) (k4 : (150, tabObj #[]) ∈ all) (k5 : (H, oH) ∈ all) (k6 : (Bd, oB) ∈ all) (k7 : (L + 1, oc) ∈ all) (k8 : (L + 1 + 1, o2) ∈ all) (k9 : (L + 1 + 1 + 1, o3) ∈ all) (kT : ∀ p ∈ T, p ∈ all)
    (m1 : m' (Str.ofString "pairs") = some (.ref Pr)) (m2 : m' (Str.ofString "pool") = some (.ref P)) (m3 : m' (Str.ofString "bounds") = some (.ref Bd)) :
    TbEnd g env.locals (PairJ Pr L oH oB oc o2 o3 H Bd P tl (i + 1)) own s₁ { s₁ with heap := h', toks := tk } := by
  refine ⟨h', tk, m', all, (Pr, listOf (pv ++ [Value.ref q]).toArray np') :: (P, listOf vs.toArray n) :: (150, tabObj #[]) :: (H, oH) :: (Bd, oB) :: (L + 1, oc) :: (L + 1 + 1, o2) :: (L + 1 + 1 + 1, o3) :: (q, iTup [.str x t1, .str y t2]) :: tl', rfl, F, N, fun p hp => ?_, fun p hp => kT _ (hO _ hp), ?_,
    ⟨vs, ns, n, pv ++ [Value.ref q], np', ps ++ [(x, y)], _, rfl, hI, hl, (hps.mono fun p hp => .tail _ hp).snoc (.head _) hx hy, by rw [List.length_append, hpl]; rfl, fun p hp => .tail _ (hs p hp), fun p hp => ?_, m1, m2, m3⟩⟩
  · exact asub k2 (asub k3 (asub k4 (asub k5 (asub k6 (asub k7 (asub k8 (asub k9 (asub k1 (fun p h => kT _ (hT _ h)))))))))) p hp
  · intro p hp
    exact fcons (hoff p hp (Pr, listOf pv.toArray np) (.head _)) (fcons (hoff p hp (P, listOf vs'.toArray n') (.tail _ (.head _))) (fcons (hoff p hp _ (.tail _ (.tail _ (.head _)))) (fcons (hoff p hp _ (.tail _ (.tail _ (.tail _ (.head _))))) (fcons (hoff p hp _ (.tail _ (.tail _ (.tail _ (.tail _ (.head _)))))) (fcons (hoff p hp _ (.tail _ (.tail _ (.tail _ (.tail _ (.tail _ (.head _))))))) (fcons (hoff p hp _ (.tail _ (.tail _ (.tail _ (.tail _ (.tail _ (.tail _ (.head _)))))))) (fcons (hoff p hp _ (.tail _ (.tail _ (.tail _ (.tail _ (.tail _ (.tail _ (.tail _ (.head _))))))))) (fcons (Nat.ne_of_lt (tb_ltOf lT p (hO _ hp))) (fun z hz => hoff p hp z (.tail _ (.tail _ (.tail _ (.tail _ (.tail _ (.tail _ (.tail _ (.tail _ hz)))))))))))))))))
  · rcases List.mem_cons.mp hp with rfl | hp
    · exact ⟨lB, Nat.ne_of_gt lP⟩
    · exact ho p hp
end

theorem menu_nm {prog : Program} {w : World} {A : Around} {E : Value → Shared → Prop} {s : Shared} {value slice : PySem.Expr} {h₀ : Heap} {L l : Addr} {news : Led} {a b c d : Str} {t1 t2 t3 t4 u : Tok} {i : Int} {Q : Value → Shared → Prop} (N : News h₀ L s.heap news)
    (hm : (l, ({ cls := .type "tuple", data := .seq #[.str a t1, .str b t2, .str c t3, .str d t4] } : Obj)) ∈ news) (h0 : 0 ≤ i) (h4 : i < 4) (na : isNm a) (nb : isNm b) (nc : isNm c) (nd : isNm d) (h : ∀ x t, isNm x → Q (.str x t) s)
    (hs : subscripted slice false (.ref l) (.int i u) = operate [.ref l, .int i u] (getItem (.ref l) (.int i u)) := by with_unfolding_all rfl) : wpAny (model prog w) A (subscriptTail value slice (.ref l) (.int i u)) Q E s := by
  refine KTb.item_tup (vs := [.str a t1, .str b t2, .str c t3, .str d t4]) (ws := [a, b, c, d]) (News.isTup N hm) (by repeat constructor) h0 (by simp; omega) (by omega) (fun t hlt => h _ t ?_) hs
  have hlt' : i.toNat < 4 := hlt
  match i.toNat, hlt' with
  | 0, _ => exact na
  | 1, _ => exact nb
  | 2, _ => exact nc
  | 3, _ => exact nd
end
section
open PySem PySem.W PyProof.Rows PyProof.Rows.LCg
noncomputable def OffBelow (tl : Led) (b : Addr) : Prop := ∀ p ∈ tl, @LT.lt Nat _ b p.1
theorem OffBelow.use {tl : Led} {b x : Addr} (h : OffBelow tl b) (hx : @LE.le Nat _ x b) : ∀ p ∈ tl, p.1 ≠ x := off_lt h hx
theorem HeldAt.to {a b : Led} {f : Str → Value} {V : Str → Int} (h : HeldAt a f V) (hs : ∀ p ∈ a, p ∈ b) : HeldAt b f V := h.mono hs
theorem PairsAre.to {a b : Led} {vs : List Value} {ps : List (Str × Str)} (h : PairsAre a vs ps) (hs : ∀ p ∈ a, p ∈ b) : PairsAre b vs ps := h.mono hs
theorem lo_of {D : Addr} (h : @LT.lt Nat _ 150 D) : (D == sysModules) = false := by
  refine beq_eq_false_iff_ne.mpr fun e => ?_
  rw [e] at h
  exact absurd h (by decide)
theorem menu_way {prog : Program} {w : World} {A : Around} {E : Value → Shared → Prop} {s : Shared} {value slice : PySem.Expr} {h₀ : Heap} {L l : Addr} {news : Led} {t1 t2 u : Tok} {i : Int} {Q : Value → Shared → Prop} (N : News h₀ L s.heap news)
    (hm : (l, ({ cls := .type "tuple", data := .seq #[.str (Str.ofString "+") t1, .str (Str.ofString "-") t2] } : Obj)) ∈ news) (h0 : 0 ≤ i) (h2 : i < 2) (h : ∀ x sg t, isWay x sg → Q (.str x t) s)
    (hs : subscripted slice false (.ref l) (.int i u) = operate [.ref l, .int i u] (getItem (.ref l) (.int i u)) := by with_unfolding_all rfl) : wpAny (model prog w) A (subscriptTail value slice (.ref l) (.int i u)) Q E s := by
  have hw : ∃ sg, isWay (List.getD [Str.ofString "+", Str.ofString "-"] i.toNat PySem.Str.empty) sg := by
    have hlt : i.toNat < 2 := by omega
    match i.toNat, hlt with
    | 0, _ => exact ⟨1, .inl ⟨rfl, rfl⟩⟩
    | 1, _ => exact ⟨-1, .inr ⟨rfl, rfl⟩⟩
  obtain ⟨sg, hw⟩ := hw
  exact KTb.item_tup (vs := [.str (Str.ofString "+") t1, .str (Str.ofString "-") t2]) (ws := [Str.ofString "+", Str.ofString "-"]) (News.isTup N hm) (by repeat constructor) h0 (by simp; omega) (by omega) (fun t _ => h _ sg t hw) hs

section
variable {w : World} {p : Program} {loose : List Str} {mean : ExcName → Option Value} {mg mb : Str → Option Value}
  {dp un : Nat} {gd : Option (List Code)} {cn : Str} {cs : Scope} {a : Addr} {ccd : Value} {cl : List (Str × Addr)} {outer : List Env} {A₀ : Around} {base h₀ : Heap} {L : Addr} {m : Str → Option Value} {s : Shared} {Q E : Value → Shared → Prop} {news : Led}
theorem plain_call {H : Addr} {oH : Obj} {f : Str → Value} {V : Str → Int}
    (B : Below A₀ base outer h₀) (F : Fr h₀ L s.heap m) (X : (hd.heap_39 w.params).In h₀) (N : News h₀ L s.heap news) (T : Top p loose mean mg mb h₀) (hk : cs.kind = .function)
    (hm : (H, oH) ∈ news) (hH : oH.IsDictOf (PySem.strKind PR w) (d4 f)) (hf : HeldAt news f V) (lo : (H == sysModules) = false) (hd : dp + 4 < recursionLimit) (hu : un + 32 < cLine)
    (ret : ∀ D oD f' h' tk', Fr h₀ L h' m → News h₀ L h' ((D, oD) :: news) → oD.IsDictOf (PySem.strKind PR w) (d4 f') → Ints f' V → (∀ q ∈ news, q.1 < D) → Q (.ref D) { s with heap := h', toks := tk' }) :
    wpAny (model PR w) (ktrTop dp un gd cn cs L a ccd cl outer) (call (.ref 167) [.ref H]) Q E s := by
  refine tells_call B F X (news := (H, oH) :: news) (News.sub N fun q hq => ?_) T hk (plain_tells H oH f V news hH hf lo) hd hu fun r h' tk' news' F' N' hr => ?_
  · rcases List.mem_cons.mp hq with rfl | hq
    · exact hm
    · exact hq
  · obtain ⟨D, oD, f', rfl, rfl, h1, h2, h3⟩ := hr
    refine ret D oD f' h' tk' F' (News.sub N' fun q hq => ?_) h1 h2 fun q hq => h3 q (.tail _ hq)
    rcases List.mem_cons.mp hq with rfl | hq
    · exact .head _
    · exact .tail _ (.tail _ hq)
theorem due_call {Pl Bd Pr : Addr} {oP oB : Obj} {f g : Str → Value} {V B' : Str → Int} {vs : List Value} {n : Nat} {ps : List (Str × Str)} {way : Str} {sg : Int} {tw : Tok} {tl : Led}
    (B : Below A₀ base outer h₀) (F : Fr h₀ L s.heap m) (X : (hd.heap_39 w.params).In h₀) (N : News h₀ L s.heap ((Pl, oP) :: (Bd, oB) :: (Pr, listOf vs.toArray n) :: tl)) (T : Top p loose mean mg mb h₀) (hk : cs.kind = .function)
    (hw : isWay way sg) (hP : oP.IsDictOf (PySem.strKind PR w) (d4 f)) (hB : oB.IsDictOf (PySem.strKind PR w) (d4 g)) (hf : Ints f V) (hg : Ints g B') (hps : PairsAre tl vs ps) (n1 : Bd ≠ Pl) (n2 : Pr ≠ Pl) (n3 : ∀ p ∈ tl, p.1 ≠ Pl)
    (hd : dp + 1 < recursionLimit) (hu : un + 8 < cLine)
    (ret : ∀ oP' f' t h' tk', Fr h₀ L h' m → News h₀ L h' ((Pl, oP') :: (Bd, oB) :: (Pr, listOf vs.toArray n) :: tl) → oP'.IsDictOf (PySem.strKind PR w) (d4 f') → Ints f' (runD sg B' V ps).1 → Q (.str (word (runD sg B' V ps).2) t) { s with heap := h', toks := tk' }) :
    wpAny (model PR w) (ktrTop dp un gd cn cs L a ccd cl outer) (call (.ref 162) [.ref Pl, .ref Bd, .ref Pr, .str way tw]) Q E s := by
  refine tells_call B F X N T hk (due_tells Pl Bd Pr oP oB f g V B' vs n ps way sg tw tl hw hP hB hf hg hps n1 n2 n3) hd hu fun r h' tk' news' F' N' hr => ?_
  obtain ⟨oP', f', t, rfl, rfl, h1, h2⟩ := hr
  exact ret oP' f' t h' tk' F' N' h1 h2
theorem run_call {H Bd Pr As : Addr} {oH oB : Obj} {f g : Str → Value} {V B' : Str → Int} {vs : List Value} {n : Nat} {asked : List Value} {ask0 : List (Str × Bool)} {na : Nat} {ps : List (Str × Str)} {way : Str} {sg : Int} {tw : Tok} {rd : Bool} {tl : Led} {TS : Array Value}
    (B : Below A₀ base outer h₀) (F : Fr h₀ L s.heap m) (X : (hd.heap_39 w.params).In h₀) (N : News h₀ L s.heap ((150, tabObj TS) :: (H, oH) :: (Bd, oB) :: (Pr, listOf vs.toArray n) :: (As, listOf asked.toArray na) :: tl)) (T : Top p loose mean mg mb h₀) (hk : cs.kind = .function) (C : CodeHd base 154 150)
    (hT : TS = #[] ∨ TabDone TS tl) (hw : isWay way sg) (hH : oH.IsDictOf (PySem.strKind PR w) (d4 f)) (hB : oB.IsDictOf (PySem.strKind PR w) (d4 g)) (hg : Ints g B') (hps : PairsAre tl vs ps) (hf : HeldAt tl f V) (hask : AskAre tl asked ask0) (hl0 : ask0.length ≤ 50) (hl1 : ps.length ≤ 50)
    (n1 : H ≠ 150) (n2 : Bd ≠ 150) (n3 : Pr ≠ 150) (n4 : As ≠ 150) (n5 : Bd ≠ H) (n6 : Pr ≠ H) (n7 : As ≠ H) (n8 : Bd ≠ As) (n9 : Pr ≠ As) (o1 : ∀ p ∈ tl, p.1 ≠ H) (o2 : ∀ p ∈ tl, p.1 ≠ As) (o3 : ∀ p ∈ tl, p.1 ≠ 150)
    (hd : dp + 8 < recursionLimit) (hu : un + 64 < cLine)
    (ret : ∀ TS' oH' f' asked' na' tl' t h' tk', Fr h₀ L h' m → News h₀ L h' ((150, tabObj TS') :: (H, oH') :: (Bd, oB) :: (Pr, listOf vs.toArray n) :: (As, listOf asked'.toArray na') :: tl') → TabDone TS' tl' → oH'.IsDictOf (PySem.strKind PR w) (d4 f') →
      HeldAt tl' f' (runD sg B' V ps).1 → AskAre tl' asked' (ask0 ++ ps.map fun p => (p.2, rd)) → (∀ p ∈ tl, p ∈ tl') → (∀ p ∈ tl', p.1 ≠ H ∧ p.1 ≠ As ∧ p.1 ≠ 150) → Q (.str (word (runD sg B' V ps).2) t) { s with heap := h', toks := tk' }) :
    wpAny (model PR w) (ktrTop dp un gd cn cs L a ccd cl outer) (call (.ref 155) [.ref H, .ref Bd, .ref Pr, .str way tw, .bool rd, .ref As]) Q E s := by
  have fin : ∀ r h' tk' news', Fr h₀ L h' m → News h₀ L h' news' → RunRet H Bd Pr As oB V B' vs n ask0 ps sg rd w tl r news' → Q r { s with heap := h', toks := tk' } := by
    rintro r h' tk' news' F' N' ⟨TS', oH', f', asked', na', tl', t, rfl, rfl, h1, h2, h3, h4, h5, h6⟩
    exact ret TS' oH' f' asked' na' tl' t h' tk' F' N' h1 h2 h3 h4 h5 h6
  rcases hT with rfl | hT
  · exact run_tells H Bd Pr As oH oB f g V B' vs n asked ask0 na ps way sg tw rd tl hw hH hB hg hps hf hask hl0 hl1 n1 n2 n3 n4 n5 n6 n7 n8 n9 o1 o2 o3 _ _ _ _ _ _ _ _ _ _ _ _ _ _ _ _ _ B F X N T hk C hd hu fin
  · exact run_tells2 H Bd Pr As oH oB f g V B' vs n asked ask0 na ps way sg tw rd tl TS hT hw hH hB hg hps hf hask hl0 hl1 n1 n2 n3 n4 n5 n6 n7 n8 n9 o1 o2 o3 _ _ _ _ _ _ _ _ _ _ _ _ _ _ _ _ _ B F X N T hk C hd hu fin
theorem cmp_call {x y : Addr} {U : Int}
    (B : Below A₀ base outer h₀) (F : Fr h₀ L s.heap m) (X : (hd.heap_39 w.params).In h₀) (N : News h₀ L s.heap news) (T : Top p loose mean mg mb h₀) (hk : cs.kind = .function)
    (hx : DecAt news x U) (hy : DecAt news y U) (hd : dp + 2 < recursionLimit) (hu : un + 16 < cLine)
    (ret : ∀ t h' tk', Fr h₀ L h' m → News h₀ L h' news → Q (.int 0 t) { s with heap := h', toks := tk' }) :
    wpAny (model PR w) (ktrTop dp un gd cn cs L a ccd cl outer) (call (.ref 112) [.ref x, .ref y]) Q E s := by
  refine tells_call B F X N T hk (cmp_tells x y U news hx hy) hd hu fun r h' tk' news' F' N' hr => ?_
  obtain ⟨t, rfl, rfl⟩ := hr
  exact ret t h' tk' F' N'
end
end
section
open PySem PySem.W PyProof.Rows PyProof.Rows.LCg
theorem off_cons {a x : Addr} {o : Obj} {tl : Led} (h1 : @Ne Nat a x) (h2 : ∀ p ∈ tl, p.1 ≠ x) : ∀ p ∈ ((a, o) :: tl : Led), p.1 ≠ x := fun p hp => by
  rcases List.mem_cons.mp hp with rfl | hp
  · exact h1
  · exact h2 p hp
theorem all_sub {a : Addr × Obj} {tl news : Led} (h1 : a ∈ news) (h2 : ∀ p ∈ tl, p ∈ news) : ∀ p ∈ (a :: tl : Led), p ∈ news := fun p hp => by
  rcases List.mem_cons.mp hp with rfl | hp
  · exact h1
  · exact h2 p hp
theorem low_off {tl : Led} {b x : Addr} (h : OffBelow tl b) (hx : @LE.le Nat _ x b) : ∀ p ∈ tl, p.1 ≠ x := off_lt h hx
theorem all_lt_off {tl : Led} {b : Addr} (h : AllLt b tl) : ∀ p ∈ tl, p.1 ≠ b := tl_lt h
theorem PairsAre.names {news : Led} : ∀ {vs : List Value} {ps : List (Str × Str)}, PairsAre news vs ps → ∀ p ∈ ps, isNm p.1 ∧ isNm p.2
  | [], [], _, _, hp => nomatch hp
  | _ :: _, q :: r, h, p, hp => by
    obtain ⟨⟨a, t1, t2, h1, h2, h3, h4⟩, h5⟩ := h
    rcases List.mem_cons.mp hp with e | hp
    · rw [e]; exact ⟨h3, h4⟩
    · exact PairsAre.names h5 p hp
theorem sameOf_nm {news : Led} {vs : List Value} {ps : List (Str × Str)} (h : PairsAre news vs ps) : ∀ k ∈ sameOf ps, isNm k := fun k hk => by
  obtain ⟨p, hp, rfl⟩ := List.mem_map.mp hk
  exact (h.names p ((List.mem_filter.mp hp).1)).1
end
section
open PySem PySem.Calls PySem.W PyProof.Rows PyProof.Rows.LCg
theorem off1_mem {D : Addr} {l : Led} (h : Off1 D l) : ∀ p ∈ l, p.1 ≠ D := by
  induction l with
  | nil => exact fun p hp => nomatch hp
  | cons q r ih =>
    intro p hp
    rcases List.mem_cons.mp hp with rfl | hp
    · exact h.1
    · exact ih h.2 p hp
section
variable {prog : Program} {w : World} {A : Around} {E : Value → Shared → Prop} {s : Shared} {h₀ : Heap} {L : Addr} {m : Str → Option Value} {env : Env} {scope : Scope} {cl : List (Str × Addr)} {Q : Value → Shared → Prop} {news : Led}
noncomputable def Away (H As : Addr) (K : Led) : Prop := ∀ p ∈ K, p.1 ≠ H ∧ p.1 ≠ As ∧ p.1 ≠ 150
noncomputable def AskEnd (h₀ : Heap) (L : Addr) (m : Str → Option Value) (s : Shared) (y : Str) (rd : Bool) (nx : Led) (v : Value) (s' : Shared) : Prop :=
  ∃ D' t h' tk', v = .ref D' ∧ s' = { s with heap := h', toks := tk' } ∧ Fr h₀ L h' m ∧ News h₀ L h' ((D', iTup [.str y t, .bool rd]) :: nx) ∧ AllLt D' nx
theorem AskEnd.mk {h₀ : Heap} {L : Addr} {m : Str → Option Value} {s : Shared} {y : Str} {rd : Bool} {nx : Led} {D' : Addr} {t : Tok} {h' : Heap} {tk' : Nat} (F : Fr h₀ L h' m) (N : News h₀ L h' ((D', iTup [.str y t, .bool rd]) :: nx)) (l : AllLt D' nx) : AskEnd h₀ L m s y rd nx (.ref D') { s with heap := h', toks := tk' } :=
  ⟨D', t, h', tk', rfl, rfl, F, N, l⟩
theorem ask_comp {elt : Expr} {x₁ x₂ : Str} {H As Pr : Addr} {oH oA oT : Obj} {rd : Bool} {vs : List Value} {n : Nat} {ps : List (Str × Str)} (hh : A.handled = none) (F : Fr h₀ L s.heap m) (N : News h₀ L s.heap news)
    (hm : (Pr, listOf vs.toArray n) ∈ news) (hps : PairsAre news vs ps) (hl : ps.length ≤ 50) (hH : (H, oH) ∈ news) (hA : (As, oA) ∈ news) (hT : (150, oT) ∈ news)
    {tlx : Led} {asx : List Value} {q0 : List (Str × Bool)} (_hr : AskAre tlx asx (q0 ++ ps.map fun p => (p.2, rd)))
    (turn : ∀ x y t1 t2 I oI C oC D oD m₂ h tk (E' : Value → Shared → Prop) nx, NsObj oC m₂ → m₂ x₁ = some (.str x t1) → m₂ x₂ = some (.str y t2) → Fr h₀ L h m → News h₀ L h ((I, oI) :: (C, oC) :: (D, oD) :: nx) → (∀ p ∈ news, p ∈ nx) →
      wpAny (model prog w) A (eval elt (compEnvC scope cl C env)) (AskEnd h₀ L m s y rd ((I, oI) :: (C, oC) :: (D, oD) :: nx)) E' { s with heap := h, toks := tk })
    (fin : ∀ D ys K h' tk', Fr h₀ L h' m → News h₀ L h' ((D, lst ys) :: (K ++ news)) → AskAre (K ++ news) ys (ps.map fun p => (p.2, rd)) → Away H As K → (∀ p ∈ K ++ news, p.1 ≠ D) → Q (.ref D) { s with heap := h', toks := tk' }) :
    LCp.SrcLP prog w A h₀ L m env elt x₁ x₂ scope cl (fun s₂ => FinE h₀ L m s₂ Q) (.ref Pr) s := by
  refine LCp.SrcLP.ledger hh F N hm (by rw [List.size_toArray, sizeLine_eq, hps.length]; omega) fun g => ?_
  have hlen : vs.toArray.size = ps.length := by rw [List.size_toArray, hps.length]
  rw [hlen]
  refine compRestP_inv (fun i ys nx => ∃ K, nx = K ++ news ∧ Away H As K ∧ AskAre nx ys ((ps.take i).map fun p => (p.2, rd))) ?_ ?_ ⟨[], rfl, fun _ h => (nomatch h), trivial⟩
  · rintro i ys nx hi ⟨K, rfl, hK, hys⟩ v hv
    have sub : ∀ p ∈ news, p ∈ K ++ news := fun p hp => List.mem_append.mpr (.inr hp)
    obtain ⟨x, y, a, t1, t2, hp, rfl, hpa, hx, hy⟩ := (hps.mono sub).get (i := i) (v := v) (by simpa using hv)
    refine ⟨a, _, _, _, _, rfl, hpa, rfl, rfl, ?_⟩
    intro I oI C oC D m₂ h tk E' hC h1 h2 F₁ N₁ off ne
    refine wpAny_mono (turn x y t1 t2 I oI C oC D _ m₂ h tk E' _ hC h1 h2 F₁ N₁ sub) (fun v s' r => ?_) fun _ _ e => e
    obtain ⟨D', t, h', tk', rfl, rfl, F₂, N₂, lt⟩ := r
    have lt' := tb_ltOf lt
    refine cend_tup F₂ N₂ (lt' _ (.head _)) (lt' _ (.tail _ (.head _))) (lt' _ (.tail _ (.tail _ (.head _)))) off (.inr ⟨_, .tail _ (sub _ hm), rfl, _, rfl⟩) ⟨(D', _) :: K, rfl, ?_, ?_⟩
    · intro p hp
      rcases List.mem_cons.mp hp with rfl | hp
      · exact ⟨Nat.ne_of_gt (lt' _ (.tail _ (.tail _ (.tail _ (sub _ hH))))), Nat.ne_of_gt (lt' _ (.tail _ (.tail _ (.tail _ (sub _ hA))))), Nat.ne_of_gt (lt' _ (.tail _ (.tail _ (.tail _ (sub _ hT)))))⟩
      · exact hK p hp
    · rw [List.take_add_one, hp, List.map_append]
      exact AskAre.append (t := t) (.head _) (hys.mono fun p hp => .tail _ hp)
  · rintro ys nx ⟨K, rfl, hK, hys⟩
    rw [List.take_length] at hys
    intro D h' tk' F₁ N₁ off
    exact fin D ys K h' tk' F₁ N₁ hys hK (off1_mem off)
end
end
section
open PySem PySem.W PyProof.Rows
theorem foldD_flag {sg : Int} {B : Str → Int} : ∀ (ps : List (Str × Str)) (st : (Str → Int) × Bool), st.2 = true → (ps.foldl (stepD sg B) st).2 = true
  | [], _, h => h
  | p :: ps, st, h => by
    rw [List.foldl_cons]
    refine foldD_flag ps _ ?_
    unfold stepD
    split
    · rfl
    · exact h
noncomputable def grow : Nat → Int → Int
  | 0, M => M
  | n + 1, M => grow n (M * 2)
theorem le_grow : ∀ (n : Nat) (M : Int), 0 ≤ M → M ≤ grow n M
  | 0, M, _ => Int.le_refl M
  | n + 1, M, h => by
    have := le_grow n (M * 2) (by omega)
    unfold grow
    omega
theorem put_back {f : Str → Int} {y : Str} {u : Int} : put (put f y u) y (f y) = f := by
  funext z
  unfold put
  by_cases e : z = y
  · rw [if_pos e, e]
  · rw [if_neg e, if_neg e]
theorem undo {sg : Int} (hs : sg = 1 ∨ sg = -1) {B B0 : Str → Int} {K : Int} (hB0 : ∀ x, isNm x → K ≤ B0 x * p10 6) : ∀ (ps : List (Str × Str)) (st : (Str → Int) × Bool) (M : Int), 0 ≤ M → (∀ x, isNm x → ab (st.1 x) ≤ M) → grow ps.length M ≤ K →
    (∀ p ∈ ps, isNm p.1 ∧ isNm p.2) → (∀ p ∈ ps, p.1 ≠ p.2) → (ps.foldl (stepD sg B) st).2 = false → ps.reverse.foldl (stepD (-sg) B0) ((ps.foldl (stepD sg B) st).1, false) = (st.1, false)
  | [], st, M, _, _, _, _, _, _ => rfl
  | (x, y) :: ps, st, M, hM, hb, hK, hn, hd, hf => by
    rw [List.foldl_cons] at hf ⊢
    obtain ⟨nx, ny⟩ := hn (x, y) (.head _)
    have hxy : x ≠ y := hd (x, y) (.head _)
    dsimp only at nx ny
    by_cases hc : ab (st.1 y + sg * st.1 x) > B y * p10 6
    · have e : stepD sg B st (x, y) = (st.1, true) := if_pos hc
      rw [e, foldD_flag ps _ rfl] at hf
      cases hf
    have e : stepD sg B st (x, y) = (put st.1 y (st.1 y + sg * st.1 x), st.2) := if_neg hc
    rw [e] at hf ⊢
    have two : ∀ z, isNm z → ab (put st.1 y (st.1 y + sg * st.1 x) z) ≤ M * 2 := fun z hz => by
      have h1 := hb z hz
      have h2 := hb x nx
      have h3 := hb y ny
      unfold put
      by_cases q : z = y
      · rw [if_pos q]
        unfold ab at h2 h3 ⊢
        rcases hs with rfl | rfl
        · split <;> split at h2 <;> split at h3 <;> omega
        · split <;> split at h2 <;> split at h3 <;> omega
      · rw [if_neg q]
        omega
    have ih := undo hs hB0 (B := B) ps (put st.1 y (st.1 y + sg * st.1 x), st.2) (M * 2) (by omega) two hK (fun p hp => hn p (.tail _ hp)) (fun p hp => hd p (.tail _ hp)) hf
    rw [List.reverse_cons, List.foldl_append, ih, List.foldl_cons, List.foldl_nil]
    have g1 : put st.1 y (st.1 y + sg * st.1 x) y = st.1 y + sg * st.1 x := by unfold put; rw [if_pos rfl]
    have g2 : put st.1 y (st.1 y + sg * st.1 x) x = st.1 x := by unfold put; rw [if_neg hxy]
    have g3 : st.1 y + sg * st.1 x + -sg * st.1 x = st.1 y := by rw [Int.neg_mul]; omega
    have hle := le_grow ((x, y) :: ps).length M hM
    have hk := hB0 y ny
    have hy := hb y ny
    have key : stepD (-sg) B0 (put st.1 y (st.1 y + sg * st.1 x), false) (x, y) = (put (put st.1 y (st.1 y + sg * st.1 x)) y (put st.1 y (st.1 y + sg * st.1 x) y + -sg * put st.1 y (st.1 y + sg * st.1 x) x), false) := if_neg (by
      dsimp only
      rw [g1, g2, g3]
      omega)
    rw [key, g1, g2, g3, put_back]
theorem runD_undo {sg : Int} (hs : sg = 1 ∨ sg = -1) {B B0 V : Str → Int} {ps : List (Str × Str)} (hB0 : ∀ x, B0 x = 100000000000000000000) (hV : ∀ x, isNm x → ab (V x) ≤ 10000000000) (hl : ps.length ≤ 6) (hn : ∀ p ∈ ps, isNm p.1 ∧ isNm p.2) (hd : sameOf ps = [])
    (hf : (runD sg B V ps).2 = false) : (runD (-sg) B0 (runD sg B V ps).1 ps.reverse).1 = V := by
  have hd' : ∀ p ∈ ps, p.1 ≠ p.2 := fun p hp e => by
    have : p.1 ∈ sameOf ps := List.mem_map.mpr ⟨p, List.mem_filter.mpr ⟨hp, decide_eq_true e⟩, rfl⟩
    rw [hd] at this
    cases this
  have hg : grow ps.length 10000000000 ≤ 640000000000 := by
    match h : ps.length, hl with
    | 0, _ => decide
    | 1, _ => decide
    | 2, _ => decide
    | 3, _ => decide
    | 4, _ => decide
    | 5, _ => decide
    | 6, _ => decide
  have h6 : p10 6 = 1000000 := by decide
  have := undo hs (K := 640000000000) (B := B) (B0 := B0) (fun x _ => by rw [hB0 x, h6]; decide) ps (V, false) 10000000000 (by decide) hV hg hn hd' hf
  exact congrArg Prod.fst this
end
section
open PySem PySem.W PyProof.Rows
theorem nPM : ¬ Str.ofString "+" = Str.ofString "-" := by decide
theorem PairsAre.append {news : Led} : ∀ {vs us : List Value} {ps qs : List (Str × Str)}, PairsAre news vs ps → PairsAre news us qs → PairsAre news (vs ++ us) (ps ++ qs)
  | [], _, [], _, _, h => h
  | _ :: _, _, _ :: _, _, h, h' => ⟨h.1, h.2.append h'⟩
theorem PairsAre.reverse {news : Led} : ∀ {vs : List Value} {ps : List (Str × Str)}, PairsAre news vs ps → PairsAre news vs.reverse ps.reverse
  | [], [], _ => trivial
  | v :: vs, p :: ps, h => by
    rw [List.reverse_cons, List.reverse_cons]
    exact (PairsAre.reverse h.2).append ⟨h.1, trivial⟩
noncomputable def gF (a b c d : Value) : Str → Value := fun x => if x = sA then a else if x = sB then b else if x = sC then c else d
theorem d4_gF (a b c d : Value) : d4 (gF a b c d) = [(sA, a), (sB, b), (sC, c), (sD, d)] := by
  simp [d4, gF, nBA, nCA, nDA, nCB, nDB, nDC]
theorem ints_gF {a b c d : Int} {ta tb tc td : Tok} : Ints (gF (.int a ta) (.int b tb) (.int c tc) (.int d td)) (fun x => if x = sA then a else if x = sB then b else if x = sC then c else d) := fun x => by
  unfold gF
  by_cases h1 : x = sA
  · exact ⟨ta, by simp [h1]⟩
  by_cases h2 : x = sB
  · exact ⟨tb, by simp [h2, nBA]⟩
  by_cases h3 : x = sC
  · exact ⟨tc, by simp [h3, nCA, nCB]⟩
  · exact ⟨td, by simp [h1, h2, h3]⟩
theorem ints_gF1 {a : Int} {ta tb tc td : Tok} : Ints (gF (.int a ta) (.int a tb) (.int a tc) (.int a td)) (fun _ => a) := fun x => by
  unfold gF
  by_cases h1 : x = sA
  · exact ⟨ta, by simp [h1]⟩
  by_cases h2 : x = sB
  · exact ⟨tb, by simp [h2, nBA]⟩
  by_cases h3 : x = sC
  · exact ⟨tc, by simp [h3, nCA, nCB]⟩
  · exact ⟨td, by simp [h1, h2, h3]⟩
theorem free_dict {prog : Program} {w : World} {o : Obj} {kd : KeyKind prog w Str} {a b c d : Value} (h : o.IsDictOf kd [(sA, a), (sB, b), (sC, c), (sD, d)]) : o.IsDictOf kd (d4 (gF a b c d)) := by rw [d4_gF]; exact h
theorem way_sg {way : Str} {sg : Int} (h : isWay way sg) : sg = 1 ∨ sg = -1 := h.elim (fun h => .inl h.2) fun h => .inr h.2
theorem word_empty {b : Bool} (h : (word b == Str.ofString "") = true) : b = false := by
  cases b with
  | false => rfl
  | true => exact absurd h (by decide)
section
variable {prog : Program} {w : World} {A : Around} {E : Value → Shared → Prop} {s : Shared} {h₀ : Heap} {L : Addr} {m : Str → Option Value} {value slice : Expr} {Q : Value → Shared → Prop} {news : Led}
theorem flip_item {d : Addr} {od : Obj} {way : Str} {sg : Int} {tw t1 t2 : Tok} (N : News h₀ L s.heap news) (hm : (d, od) ∈ news) (hd : od.IsDictOf (PySem.strKind prog w) [(Str.ofString "+", .str (Str.ofString "-") t1), (Str.ofString "-", .str (Str.ofString "+") t2)]) (hw : isWay way sg)
    (h : ∀ v t, isWay v (-sg) → Q (.str v t) { s with toks := s.toks + 1 })
    (hs : ∀ tw, subscripted slice false (.ref d) (.str way tw) = operate [.ref d, .str way tw] (getItem (.ref d) (.str way tw)) := by intro _; with_unfolding_all rfl) :
    wpAny (model prog w) A (subscriptTail value slice (.ref d) (.str way tw)) Q E s := by
  refine kba_turn (value' := PySem.Expr.Name (Str.ofString "_") ⟨0, 0, 0, 0⟩) (fun _ => rfl) ?_
  rcases hw with ⟨rfl, rfl⟩ | ⟨rfl, rfl⟩
  · exact kda_item (knd := PySem.strKind _ _) N hm hd (strKind_is _ _ _ _) (show valueAt _ _ = some (.str (Str.ofString "-") t1) by simp [valueAt]) (h _ _ (.inr ⟨rfl, rfl⟩)) (hs _) (fun _ => rfl)
  · exact kda_item (knd := PySem.strKind _ _) N hm hd (strKind_is _ _ _ _) (show valueAt _ _ = some (.str (Str.ofString "+") t2) by simp [valueAt, nPM]) (h _ _ (.inl ⟨rfl, rfl⟩)) (hs _) (fun _ => rfl)
theorem rev_slice {l : Addr} {vs : List Value} {n : Nat} {vk : Value} {ops : List Value} (F : Fr h₀ L s.heap m) (N : News h₀ L s.heap news) (hm : (l, listOf vs.toArray n) ∈ news) (pk : IsPart vk (some (-1)))
    (h : ∀ D h', Fr h₀ L h' m → News h₀ L h' ((D, listOf vs.reverse.toArray 0) :: news) → (∀ p ∈ news, p.1 < D) → Q (.ref D) { s with heap := h' })
    (hs : subscripted slice false (.ref l) (.ref s.heap.objs.size) = operate ops (getItem (.ref l) (.ref s.heap.objs.size))) (ht : ∀ r, letTemporaryGo value (.ref l) r = pure ()) (hz : vs.length ≤ 1000) :
    wpAny (model prog w) A (subscriptTail value slice (.ref l) (.ref s.heap.objs.size)) Q E { s with heap := s.heap.push { cls := .type "slice", data := .fields #[.none, .none, vk] } } :=
  krv_lit (its := vs.toArray) (zs := vs.reverse) F N ⟨_, (N _ hm).1, rfl, ⟨_, rfl⟩⟩ pk rfl h hs ht (by rw [List.size_toArray, sizeLine_eq]; omega)
end
end
section
open PySem PySem.Calls PySem.W PyProof.Rows PyProof.Rows.LCg PyProof.Rows.LCt
section
variable {prog : Program} {w : World} {A : Around} {E : Value → Shared → Prop} {s : Shared} {h₀ : Heap} {L : Addr} {m : Str → Option Value} {env : Env} {scope : Scope} {cl : List (Str × Addr)} {Q : Value → Shared → Prop} {news : Led}
noncomputable def CmpEnd (h₀ : Heap) (L : Addr) (m : Str → Option Value) (s : Shared) (nx : Led) (ok : Bool) (s' : Shared) : Prop := ok = false ∧ ∃ h' tk', s' = { s with heap := h', toks := tk' } ∧ Fr h₀ L h' m ∧ News h₀ L h' nx
theorem CmpEnd.mk {h₀ : Heap} {L : Addr} {m : Str → Option Value} {s : Shared} {nx : Led} {h' : Heap} {tk' : Nat} (F : Fr h₀ L h' m) (N : News h₀ L h' nx) : CmpEnd h₀ L m s nx false { s with heap := h', toks := tk' } := ⟨rfl, h', tk', rfl, F, N⟩
theorem cmp_comp {ct elt : Expr} {x : Str} {H : Addr} {oH : Obj} {f : Str → Value} (hh : A.handled = none) (F : Fr h₀ L s.heap m) (N : News h₀ L s.heap news) (mem : (H, oH) ∈ news) (dict : oH.IsDictOf (PySem.strKind prog w) (d4 f)) (lo : (H == sysModules) = false)
    (turn : ∀ k t I oI C oC D oD m₂ h tk (E' : Value → Shared → Prop), isNm k → NsObj oC m₂ → m₂ x = some (.str k t) → Fr h₀ L h m → News h₀ L h ((I, oI) :: (C, oC) :: (D, oD) :: news) →
      wpAny (model prog w) A (isTrue ct (compEnvC scope cl C env) (eval ct (compEnvC scope cl C env))) (CmpEnd h₀ L m s ((I, oI) :: (C, oC) :: (D, oD) :: news)) E' { s with heap := h, toks := tk })
    (fin : ∀ D h' tk', Fr h₀ L h' m → News h₀ L h' ((D, listOf ([] : List Value).toArray 0) :: news) → Q (.ref D) { s with heap := h', toks := tk' }) :
    ∃ d od kvs nws, (.ref H : Value) = .ref d ∧ DSrc prog w A h₀ L m d od kvs nws s ∧ ∀ s₂ : Shared, (∃ h, s₂ = { s with heap := h }) → CompRestT prog w A h₀ L m env ct elt x scope cl s₂ (fun nw => (d, od) ∈ nw) (KeyAt prog w kvs) (FinE h₀ L m s₂ Q) kvs.length 0 [] nws := by
  refine ⟨H, oH, d4 f, news, rfl, ⟨hh, F, N, mem, dict, lo, Nat.le_of_ble_eq_true rfl⟩, fun s₂ hs₂ => ?_⟩
  obtain ⟨g, rfl⟩ := hs₂
  refine compRestT_inv (fun i ys nw => ys = [] ∧ nw = news) ?_ ?_ ⟨rfl, rfl⟩
  · rintro i ys nw hi ⟨rfl, rfl⟩ v I oI C oC D m₂ h tk E' hP hC hx F₁ N₁ hoff ne
    obtain ⟨k, t, rfl, hk, hnm⟩ := key_at hP
    refine wpAny_mono (turn k t I oI C oC D _ m₂ h tk E' hnm hC hx F₁ N₁) (fun ok s' r => ?_) fun _ _ e => e
    obtain ⟨rfl, h', tk', rfl, F₂, N₂⟩ := r
    rw [if_neg (by decide)]
    exact CompEnd.intro F₂ N₂ _ (fun p hp => hp) hoff mem ⟨rfl, rfl⟩
  · rintro ys nw ⟨rfl, rfl⟩
    intro D h' tk' F₁ N₁ off
    exact fin D h' tk' F₁ N₁
end
end
section
open PySem PySem.W PyProof.Rows
theorem stored4 (a b c d : Value) : stored (stored (stored (stored [] sA a) sB b) sC c) sD d = d4 (gF a b c d) := by
  simp [stored, d4, gF, nBA, nCA, nDA, nCB, nDB, nDC, nAB, nAC, nAD, nBC, nBD, nCD]
noncomputable def vF (a b c d : Int) : Str → Int := fun x => if x = sA then a else if x = sB then b else if x = sC then c else d
theorem held_gF {tl : Led} {a b c d : Addr} {x y z u : Int} (ha : DecAt tl a x) (hb : DecAt tl b y) (hc : DecAt tl c z) (hd : DecAt tl d u) : HeldAt tl (gF (.ref a) (.ref b) (.ref c) (.ref d)) (vF x y z u) := fun k hk => by
  rcases hk with rfl | rfl | rfl | rfl
  · exact ⟨a, by simp [gF], by simpa [vF] using ha⟩
  · exact ⟨b, by simp [gF, nBA], by simpa [vF, nBA] using hb⟩
  · exact ⟨c, by simp [gF, nCA, nCB], by simpa [vF, nCA, nCB] using hc⟩
  · exact ⟨d, by simp [gF, nDA, nDB, nDC], by simpa [vF, nDA, nDB, nDC] using hd⟩
theorem vF_le {x y z u K : Int} (ha : ab x ≤ K) (hb : ab y ≤ K) (hc : ab z ≤ K) (hd : ab u ≤ K) : ∀ k, isNm k → ab (vF x y z u k) ≤ K := fun k hk => by
  rcases hk with rfl | rfl | rfl | rfl
  · simpa [vF] using ha
  · simpa [vF, nBA] using hb
  · simpa [vF, nCA, nCB] using hc
  · simpa [vF, nDA, nDB, nDC] using hd
theorem post1_mk {g : Heap} {L : Addr} {w : World} {o2 o3 : Obj} {s : Shared} {h : Heap} {tk : Nat} {m : Str → Option Value} {P H Bd a b c d : Addr} {vs : List Value} {ns : List Int} {n : Nat} {oH oB oc : Obj} {led : Led}
    {ua sa ub sb uc sc ud sd xa ya xb yb xc yc xd yd b1 b2 b3 b4 : Int} {t1 t2 t3 t4 t5 t6 t7 t8 k1 k2 k3 k4 : Tok}
    (F : Fr g L h m) (hP : m (Str.ofString "pool") = some (.ref P)) (hB : m (Str.ofString "bounds") = some (.ref Bd)) (N : News g L h led)
    (mP : (P, listOf vs.toArray n) ∈ led) (mT : (150, tabObj #[]) ∈ led) (mc : (L + 1, oc) ∈ led) (hoc : oc.data = .cell (some (.ref H))) (mH : (H, oH) ∈ led) (mB : (Bd, oB) ∈ led) (m2 : (L + 1 + 1, o2) ∈ led) (m3 : (L + 1 + 1 + 1, o3) ∈ led)
    (hI : IntsAre vs ns) (hns : ns.length ≤ 24) (dH : oH.IsDictOf (PySem.strKind PR w) [(sA, .ref a), (sB, .ref b), (sC, .ref c), (sD, .ref d)])
    (ma : (a, iTup [.int ua t1, .int sa t2]) ∈ led) (mb : (b, iTup [.int ub t3, .int sb t4]) ∈ led) (mcc : (c, iTup [.int uc t5, .int sc t6]) ∈ led) (md : (d, iTup [.int ud t7, .int sd t8]) ∈ led)
    (da : isDec ua sa (xa * p10 (6 - ya))) (db : isDec ub sb (xb * p10 (6 - yb))) (dc : isDec uc sc (xc * p10 (6 - yc))) (dd : isDec ud sd (xd * p10 (6 - yd)))
    (ra : -10000 ≤ xa ∧ xa ≤ 10000 ∧ 0 ≤ ya) (rb : -10000 ≤ xb ∧ xb ≤ 10000 ∧ 0 ≤ yb) (rc : -10000 ≤ xc ∧ xc ≤ 10000 ∧ 0 ≤ yc) (rd : -10000 ≤ xd ∧ xd ≤ 10000 ∧ 0 ≤ yd)
    (dB : oB.IsDictOf (PySem.strKind PR w) (stored (stored (stored (stored [] sA (.int b1 k1)) sB (.int b2 k2)) sC (.int b3 k3)) sD (.int b4 k4)))
    (l0 : @LT.lt Nat _ 150 L) (l1 : @Ne Nat (L + 1) P ∧ @Ne Nat (L + 1 + 1) P ∧ @Ne Nat (L + 1 + 1 + 1) P ∧ @Ne Nat 150 P ∧ @LT.lt Nat _ (L + 1 + 1 + 1) H) (l2 : @LT.lt Nat _ P H) (l3 : @LT.lt Nat _ H Bd) (ga : @LT.lt Nat _ Bd a) (gb : @LT.lt Nat _ Bd b) (gc : @LT.lt Nat _ Bd c) (gd : @LT.lt Nat _ Bd d) :
    Post1 g L w o2 o3 s .next { s with heap := h, toks := tk } := by
  have lo : (H == sysModules) = false := lo_of (Nat.lt_trans l0 (Nat.lt_trans (Nat.lt_of_lt_of_le (Nat.lt_succ_self L) (Nat.le_add_right _ 2)) l1.2.2.2.2))
  rw [stored4] at dB
  refine ⟨rfl, h, tk, m, P, vs, ns, n, H, oH, Bd, oB, gF (.ref a) (.ref b) (.ref c) (.ref d), _, _, _, [(a, iTup [.int ua t1, .int sa t2]), (b, iTup [.int ub t3, .int sb t4]), (c, iTup [.int uc t5, .int sc t6]), (d, iTup [.int ud t7, .int sd t8])], oc, rfl, F, hP, hB,
    News.sub N (all_sub mP (all_sub mT (all_sub mH (all_sub mB (all_sub mc (all_sub m2 (all_sub m3 (all_sub ma (all_sub mb (all_sub mcc (all_sub md fun _ h => nomatch h))))))))))), hoc, hI, hns, by rw [d4_gF]; exact dH,
    held_gF ⟨_, _, _, _, .head _, da⟩ ⟨_, _, _, _, .tail _ (.head _), db⟩ ⟨_, _, _, _, .tail _ (.tail _ (.head _)), dc⟩ ⟨_, _, _, _, .tail _ (.tail _ (.tail _ (.head _))), dd⟩,
    vF_le (first_bound ra.1 ra.2.1 ra.2.2) (first_bound rb.1 rb.2.1 rb.2.2) (first_bound rc.1 rc.2.1 rc.2.2) (first_bound rd.1 rd.2.1 rd.2.2), dB, ints_gF, lo, ⟨l0, l1, l2, l3⟩, fun p hp => ?_⟩
  rcases List.mem_cons.mp hp with rfl | hp
  · exact ga
  rcases List.mem_cons.mp hp with rfl | hp
  · exact gb
  rcases List.mem_cons.mp hp with rfl | hp
  · exact gc
  rcases List.mem_cons.mp hp with rfl | hp
  · exact gd
  · exact nomatch hp
end
section
open PySem PySem.W PyProof.Rows
theorem post_true (ws : List Int) : ClaimW.post (RowW.claim (OpenRow.toRowW (OpenLaw.row PySem.Challenge.rw_pb0227_01))) [ofPy (PyData.list (List.map PyData.int ws))] (WData.bool true) [ofPy (PyData.list (List.map PyData.int ws))] = true := by
  exact postW_of (by wrow_shape) (by wtm_val) (by w_fin)
end
section
open PySem PySem.W PyProof.Rows
section
variable {w : World} {p : Program} {loose : List Str} {mean : ExcName → Option Value} {mg mb : Str → Option Value}
  {dp un : Nat} {gd : Option (List Code)} {cn : Str} {cs : Scope} {a : Addr} {ccd : Value} {cl : List (Str × Addr)} {outer : List Env} {A₀ : Around} {base h₀ : Heap} {L : Addr} {m : Str → Option Value} {s : Shared} {Q E : Value → Shared → Prop} {news : Led}
theorem table_call {TS : Array Value} {tl : Led}
    (B : Below A₀ base outer h₀) (F : Fr h₀ L s.heap m) (X : (hd.heap_39 w.params).In h₀) (N : News h₀ L s.heap news) (T : Top p loose mean mg mb h₀) (hk : cs.kind = .function) (C : CodeHd base 154 150)
    (hT : TabDone TS tl) (hm : (150, tabObj TS) ∈ news) (hs : ∀ p ∈ tl, p ∈ news) (o3 : ∀ p ∈ tl, p.1 ≠ 150) (hd : dp + 20 < recursionLimit) (hu : un + 200 < cLine)
    (ret : ∀ h' tk', Fr h₀ L h' m → News h₀ L h' [(150, tabObj TS)] → Q (.bool true) { s with heap := h', toks := tk' }) :
    wpAny (model PR w) (ktrTop dp un gd cn cs L a ccd cl outer) (call (.ref 174) []) Q E s := by
  obtain ⟨c1, c2, o1, o2, rfl, m1, m2, h1, h2⟩ := hT
  refine table_tells c1 c2 o1 o2 h1 h2 (o3 _ m1) (o3 _ m2) _ _ _ _ _ _ _ _ _ _ _ _ _ _ _ _ _ B F X (News.sub N (all_sub hm (all_sub (hs _ m1) (all_sub (hs _ m2) fun _ h => nomatch h)))) T hk C hd hu fun r h' tk' news' F' N' hr => ?_
  obtain ⟨rfl, hm'⟩ := hr
  exact ret h' tk' F' (News.sub N' (all_sub hm' fun _ h => nomatch h))
end
end
section
open PySem PySem.W PyProof.Rows
theorem off31 : True := by
  w_top off
  trivial
local macro_rules | `(tactic| walk_at "exec For Name Tuple cons nil") => `(tactic| (k_here; refine stop_here ?_))
theorem phase1E {g : Heap} {L : Addr} {w : World} {o2 o3 : Obj} {s : Shared} {m : Str → Option Value} {A : Around} {t : Sem Flow} {Q : Flow → Shared → Prop} {E : Value → Shared → Prop} {r : Led} (_F : Fr g L s.heap m) (_N : News g L s.heap r) (_h2 : (L + 1 + 1, o2) ∈ r) (_h3 : (L + 1 + 1 + 1, o3) ∈ r)
    (h1 : wpAny (model PR w) A t (Post1 g L w o2 o3 s) (fun _ _ => False) s) (h2 : ∀ s', Post1 g L w o2 o3 s .next s' → Q .next s') : wpAny (model PR w) A t Q E s :=
  wpAny_mono h1 (fun f s' p => by obtain ⟨rfl, r⟩ := p; exact h2 s' ⟨rfl, r⟩) fun _ _ e => e.elim
/-- what the last line of the law asks of its end -/
noncomputable def FinAt (g : Heap) (L : Addr) (s : Shared) (Q : Flow → Shared → Prop) : Prop := ∀ h tk m TS, Fr g L h m → News g L h [(150, tabObj TS)] → Q (.ret (.bool true)) { s with heap := h, toks := tk }
theorem rest_use {g : Heap} {L : Addr} {s : Shared} {M : Model} {A : Around} {c : Sem Flow} {Q : Flow → Shared → Prop} {E : Value → Shared → Prop} {m : Str → Option Value} (_F : Fr g L s.heap m) (K : ∀ Q', FinAt g L s Q' → wpAny M A c Q' (fun _ _ => False) s) (hf : FinAt g L s Q) : wpAny M A c Q E s := wpAny_mono (K Q hf) (fun _ _ h => h) fun _ _ e => e.elim
theorem script_pool {ns ms : List Int} {ys : List Value} {k : Nat} (h : IntsAre ys (List.map (fun k' => (if k' < 0 then -k' else k').fmod (10 ^ Int.toNat 80)) (List.take k ns))) (hk : k ≤ 24) : ∃ zs, IntsAre ys zs ∧ zs.length ≤ 24 := ⟨_, h, by rw [List.length_map, List.length_take]; omega⟩
noncomputable def law0 : Cut2 PySem.Challenge.rw_pb0227_01.Holds := by
  apply Cut2.mk
  intro hCutP hCutQ
  exact hd (by
    k_go0
    (rename Fr _ _ _ _ => F9)
    refine rest_use F9 ?K ?fin
    case fin =>
      clear F9
      intro h9 tk9 m9 TS9 F9 N9
      dsimp only
      refine ⟨?_, ?_⟩
      · refine goodW_bool F9 (by assumption) (raisesW_false ?_) ?_
        · wrow_none_raised
        · exact post_true _
      · exact ⟨GrownAt.of N9 (.head _), trivial⟩
    intro Q' hfin
    try dsimp only
    k_steps
    unfold Marked
    (rename Fr _ _ _ _ => F0)
    (rename News _ _ _ _ => N0)
    refine phase1E F0 N0 (by k_mem) (by k_mem) ?_ ?_
    · rename_i hI8 hL8 P h6 tk6 o1 H h5 oH lo1 hsH fs1 hi1 fi1 l2 Bd h4 oB lo2 hsB fs2 hi2 fi2 l3 D h3 l4 h2 h1 oc hcell hcur
      obtain ⟨zs, hzs, hzl⟩ := script_pool (ms := []) hI8 (Nat.le_refl 24)
      have q0 : @LT.lt Nat _ P H := l2.1
      have q1 : @LT.lt Nat _ H Bd := l3.1
      have q2 : @LT.lt Nat _ P Bd := l3.2.1
      have q3 := l2.2.2
      have q4 := o1.2
      have q5 := l3.2.2.2
      clear l2 l3 l4 o1
      rename (150 < Array.size _) => q6
      have N0 := News.sub N0 (allsub (.tail _ (.tail _ (.head _))) (allsub (.tail _ (.head _)) (allsub (.tail _ (.tail _ (.tail _ (.head _)))) fun p hp => .tail _ (.tail _ (.tail _ (.tail _ (.tail _ hp)))))))
      obtain ⟨m₀, F0⟩ : ∃ m₀ : Str → Option Value, Fr _ _ hcur (fun z => if z = Str.ofString "bounds" then some (.ref Bd) else if z = Str.ofString "pool" then some (.ref P) else m₀ z) := ⟨_, F0⟩
      rename Below _ _ _ _ => hBel
      rename Top _ _ _ _ _ _ => hTop
      rename Frag.In _ _ => hIn
      rename_i za1 za2 za3 za4 za5 za6 za7 za8 za9 za10 za11 za12 za13 za14 za15 za16 za17 za18 za19 za20 za21 za22 za23 za24 za25 za26 za27 za28 za29 za30 za31 za32 za33 za34 za35 za36 za37 za38 za39 za40 za41 za42 za43 za44 za45 za46 za47 za48 za49 za50 za51 za52 za53 za54 za55 za56 za57 za58 za59 za60 za61 za62
      clear za6 za7 za9 za10 za12 za13 za14 za15 hT8 za16 za17 za18 za19 za20 za21 hT9 za22 za23 za24 za25 za26 za27 za28 za29 za30 za31 za32 za33 za34 za35 za36 za37 za38 za39 za40 za41 za42 za43 za46 za47 za48 za49 za50 lifted codeHd Q' hfin za51 za52 za53 za54 za55 za56 za57 za58 za59 za60 hI8 hL8 h6 tk6 h5 lo1 fs1 hi1 fi1 h4 lo2 fs2 hi2 fi2 D h3 h2 h1 za61 za62
      revert za1 za2 za3 za4 za5 za8 za11 za44 za45 hIn hTop hBel q6 ys P H oH hsH Bd oB hsB oc hcell hcur tk zs hzs hzl q0 q1 q2 q3 q4 q5 N0 m₀ F0
      exact hCutP.out
    rintro s' ⟨_, h, tk, m, P, vs, ns, n, H, oH, Bd, oB, f, gB, V, B, tl, oc, rfl, F1, hmP, hmB, N1, hoc, hI, hns, hH, hf, hV, hB, hgB, lo, ⟨c1, ⟨e1, e2, e3, e4, c2⟩, c3, c4⟩, c5⟩
    dsimp only
    rw [map2id hmP hmB] at F1
    have q1 : ∀ p ∈ tl, p.1 ≠ P := off_lt c5 (by omega)
    rename Below _ _ _ _ => hBel
    rename Top _ _ _ _ _ _ => hTop
    rename Frag.In _ _ => hIn
    revert hoc
    rename (Obj.data _ = Data.cell _) => y1
    revert y1
    rename (Obj.data _ = Data.cell _) => y2
    revert y2
    rename (Obj.data _ = Data.cell _) => y3
    revert y3
    rename (Obj.data _ = Data.cell _) => y4
    intro y3 y2 y1 hoc
    have hy3 : Obj.data _ = Data.cell none := y3
    have hy4 : Obj.data _ = Data.cell none := y4
    rename_i zb1 zb2 zb3 zb4 zb5 zb6 zb7 zb8 zb9 zb10 zb11 zb12 zb13 zb14 zb15 zb16 zb17 zb18 zb19 zb20 zb21 zb22 zb23 zb24 zb25 zb26 zb27 zb28 zb29 zb30 zb31 zb32 zb33 zb34 zb35 zb36 zb37 zb38 zb39 zb40 zb41 zb42 zb43 zb44 zb45 zb46 zb47 zb48 zb49 zb50 zb51 zb52 zb53 zb54 zb55 zb56 zb57 zb58 zb59 zb60 zb61 zb62 zb63 zb64 zb65 zb66 zb67 zb68 zb69 zb70 zb71 zb72 zb73 zb74 zb75 zb76 zb77 zb78 zb79 zb80 zb81 zb82 zb83 zb84 zb85 zb86 zb87 zb88 zb89 zb90 zb91
    clear zb6 zb7 zb9 zb10 zb12 zb13 zb14 zb15 hT8 zb16 zb17 zb18 zb19 zb20 zb21 hT9 zb22 zb23 zb24 zb25 zb26 zb27 zb28 zb29 zb30 zb31 zb32 zb33 zb34 zb35 zb36 zb37 zb38 zb39 zb40 zb41 zb46 y4 zb47 lifted zb48 zb49 zb50 zb51 zb52 zb53 zb54 zb55 zb56 zb57 zb58 ys zb59 zb60 zb61 zb62 zb63 zb64 zb65 zb66 zb67 zb68 zb69 zb70 zb71 zb72 zb73 zb74 zb75 zb76 zb77 zb78 zb79 zb80 zb81 zb82 zb83 zb84 zb85 zb86 zb87 zb88 zb89 F0 N0 zb90 zb91 hmP hmB y3 y2 y1
    revert zb1 zb2 zb3 zb4 zb5 zb8 zb11 zb42 zb43 zb44 zb45 hIn hTop hBel codeHd Q' hfin h tk m P vs ns n H oH Bd oB f gB V B tl oc F1 N1 hI hns hH hf hV hB hgB lo c5 c1 e1 e2 e3 e4 c2 c3 c4 q1 hoc hy3 hy4
    exact hCutQ.out
    )
end
section
open PySem PySem.W PyProof.Rows
theorem off32 : True := by
  w_top off
  trivial
local macro_rules | `(tactic| walk_at "Post1") => `(tactic| (refine stop_here ?_))
local macro_rules | `(tactic| walk_at "assign Name") => `(tactic| (k_here; refine stop_here ?_))
theorem fillP1 (_ : PySem.Challenge.rw_pb0227_01 = PySem.Challenge.rw_pb0227_01) (_ : hd.heap_39 = hd.heap_39) : PySem.Challenge.rw_pb0227_01 = PySem.Challenge.rw_pb0227_01 ∧ hd.heap_39 = hd.heap_39 := by
  k_fill
  exact ⟨rfl, rfl⟩
/-- one turn of the law's first loop -/
noncomputable def Turn1Spec (w : World) (p : Program) (loose : List Str) (mean : ExcName → Option Value) (mg mb : Str → Option Value) (cn : Str) (cs : Scope) (L a : Addr) (ccd : Value) (cl : List (Str × Addr)) (target : PySem.Expr) (env : Env) (body : List Stmt) : Prop :=
  ∀ (rest : Led) (H Bd P : Addr) (oH oB oc : Obj) (kvs kvsB : List (Str × Value)) (vs : List Value) (ns : List Int) (n : Nat) (x : Str) (tx : Tok) (uA uB : Option Value) (m₁ : Str → Option Value)
    (dp un : Nat) (gd : Option (List Code)) (outer : List Env) (A₀ : Around) (base h₀ : Heap) (s : Shared) (Q : Flow → Shared → Prop) (E : Value → Shared → Prop),
    (L + 1, oc) ∈ rest → oc.data = .cell (some (.ref H)) → (∀ p ∈ rest, p.1 ≠ H) → (∀ p ∈ rest, p.1 ≠ Bd) → (∀ p ∈ rest, p.1 ≠ P) → @LT.lt Nat _ P H → @LT.lt Nat _ H Bd → kvs.length ≤ 100 → kvsB.length ≤ 100 →
    oH.IsDictOf (PySem.strKind PR w) kvs → oB.IsDictOf (PySem.strKind PR w) kvsB → IntsAre vs ns → ns.length ≤ 24 →
    Below A₀ base outer h₀ → Fr h₀ L s.heap (fun z => if z = Str.ofString "name" then uA else if z = Str.ofString "units" then uB else if z = Str.ofString "bounds" then some (.ref Bd) else if z = Str.ofString "pool" then some (.ref P) else m₁ z) → (hd.heap_39 w.params).In h₀ → News h₀ L s.heap ((H, oH) :: (Bd, oB) :: (P, listOf vs.toArray n) :: rest) → Top p loose mean mg mb h₀ → cs.kind = .function → dp + 4 < recursionLimit → un + 40 < cLine →
    (∀ (h' : Heap) (tk' : Nat) (vs' : List Value) (ns' : List Int) (n' : Nat) (dA : Addr) (u sc : Int) (k1 k2 : Tok) (xa ya b : Int) (kb : Tok) (oH' oB' : Obj) (uA' uB' : Option Value), IntsAre vs' ns' → ns'.length ≤ 24 → isDec u sc (xa * p10 (6 - ya)) → (-10000 ≤ xa ∧ xa ≤ 10000 ∧ 0 ≤ ya) →
      (@LT.lt Nat _ Bd dA ∧ AllLt dA rest) → oH'.IsDictOf (PySem.strKind PR w) (stored kvs x (.ref dA)) → oB'.IsDictOf (PySem.strKind PR w) (stored kvsB x (.int b kb)) →
      Fr h₀ L h' (fun z => if z = Str.ofString "name" then uA' else if z = Str.ofString "units" then uB' else if z = Str.ofString "bounds" then some (.ref Bd) else if z = Str.ofString "pool" then some (.ref P) else m₁ z) → News h₀ L h' ((H, oH') :: (Bd, oB') :: (P, listOf vs'.toArray n') :: (dA, iTup [.int u k1, .int sc k2]) :: rest) → Q .next { s with heap := h', toks := tk' }) →
    wpAny (model PR w) (ktrTop dp un gd cn cs L a ccd cl outer) (assign target env (.str x tx)) (fun _ s₃ => wpAny (model PR w) (ktrTop dp un gd cn cs L a ccd cl outer) (execs body env) Q E s₃) E s
theorem F_two {g h : Heap} {L : Addr} {a b : Str} {m f : Str → Option Value} (F : Fr g L h m) (hz : ∀ z, z ≠ a → z ≠ b → m z = f z) : ∃ u v, Fr g L h (fun z => if z = a then u else if z = b then v else f z) := by
  refine ⟨m a, m b, ?_⟩
  have e : (fun z => if z = a then m a else if z = b then m b else f z) = m := by
    funext z
    by_cases h1 : z = a
    · rw [if_pos h1, h1]
    by_cases h2 : z = b
    · rw [if_neg h1, if_pos h2, h2]
    rw [if_neg h1, if_neg h2, hz z h1 h2]
  rw [e]; exact F
theorem turn1_app {w : World} {p : Program} {loose : List Str} {mean : ExcName → Option Value} {mg mb : Str → Option Value} {cn : Str} {cs : Scope} {L a : Addr} {ccd : Value} {cl : List (Str × Addr)} {target : PySem.Expr} {env : Env} {body : List Stmt} {i D : Addr × Obj} {tl : Led}
    {H Bd P : Addr} {oH oB oc : Obj} {kvs kvsB : List (Str × Value)} {vs : List Value} {ns : List Int} {n : Nat} {x : Str} {tx : Tok} {uA uB : Option Value} {m₁ : Str → Option Value} {dp un : Nat} {gd : Option (List Code)} {outer : List Env} {A₀ : Around} {base h₀ : Heap} {s : Shared} {Q : Flow → Shared → Prop} {E : Value → Shared → Prop}
    (N : News h₀ L s.heap (i :: D :: (H, oH) :: (Bd, oB) :: (P, listOf vs.toArray n) :: tl)) (F : Fr h₀ L s.heap (fun z => if z = Str.ofString "name" then uA else if z = Str.ofString "units" then uB else if z = Str.ofString "bounds" then some (.ref Bd) else if z = Str.ofString "pool" then some (.ref P) else m₁ z)) (Bw : Below A₀ base outer h₀) (X : (hd.heap_39 w.params).In h₀) (T : Top p loose mean mg mb h₀) (kk : cs.kind = .function)
    (K : Turn1Spec w p loose mean mg mb cn cs L a ccd cl target env body) (moc : (L + 1, oc) ∈ tl) (hoc : oc.data = .cell (some (.ref H))) (iH : i.1 ≠ H) (iB : i.1 ≠ Bd) (iP : i.1 ≠ P) (DH : D.1 ≠ H) (DB : D.1 ≠ Bd) (DP : D.1 ≠ P) (oH0 : ∀ p ∈ tl, p.1 ≠ H) (oB0 : ∀ p ∈ tl, p.1 ≠ Bd) (oP0 : ∀ p ∈ tl, p.1 ≠ P)
    (q0 : @LT.lt Nat _ P H) (q1 : @LT.lt Nat _ H Bd) (k1 : kvs.length ≤ 100) (k2 : kvsB.length ≤ 100) (dH : oH.IsDictOf (PySem.strKind PR w) kvs) (dB : oB.IsDictOf (PySem.strKind PR w) kvsB) (hI : IntsAre vs ns) (hl : ns.length ≤ 24) (hd : dp + 4 < recursionLimit) (hu : un + 40 < cLine)
    (ret : (∀ (h' : Heap) (tk' : Nat) (vs' : List Value) (ns' : List Int) (n' : Nat) (dA : Addr) (u sc : Int) (k1 k2 : Tok) (xa ya b : Int) (kb : Tok) (oH' oB' : Obj) (uA' uB' : Option Value), IntsAre vs' ns' → ns'.length ≤ 24 → isDec u sc (xa * p10 (6 - ya)) → (-10000 ≤ xa ∧ xa ≤ 10000 ∧ 0 ≤ ya) →
      (@LT.lt Nat _ Bd dA ∧ AllLt dA ((i :: D :: tl))) → oH'.IsDictOf (PySem.strKind PR w) (stored kvs x (.ref dA)) → oB'.IsDictOf (PySem.strKind PR w) (stored kvsB x (.int b kb)) →
      Fr h₀ L h' (fun z => if z = Str.ofString "name" then uA' else if z = Str.ofString "units" then uB' else if z = Str.ofString "bounds" then some (.ref Bd) else if z = Str.ofString "pool" then some (.ref P) else m₁ z) → News h₀ L h' ((H, oH') :: (Bd, oB') :: (P, listOf vs'.toArray n') :: (dA, iTup [.int u k1, .int sc k2]) :: i :: D :: tl) → Q .next { s with heap := h', toks := tk' })) :
    wpAny (model PR w) (ktrTop dp un gd cn cs L a ccd cl outer) (assign target env (.str x tx)) (fun _ s₃ => wpAny (model PR w) (ktrTop dp un gd cn cs L a ccd cl outer) (execs body env) Q E s₃) E s :=
  K (i :: D :: tl) H Bd P oH oB oc kvs kvsB vs ns n x tx uA uB m₁ dp un gd outer A₀ base h₀ s Q E (.tail _ (.tail _ moc)) hoc (offp iH (offp DH oH0)) (offp iB (offp DB oB0)) (offp iP (offp DP oP0)) q0 q1 k1 k2 dH dB hI hl Bw F X (News.sub N (allsub (.tail _ (.tail _ (.head _))) (allsub (.tail _ (.tail _ (.tail _ (.head _)))) (allsub (.tail _ (.tail _ (.tail _ (.tail _ (.head _))))) (allsub (.head _) (allsub (.tail _ (.head _)) (fun _ hp => (.tail _ (.tail _ (.tail _ (.tail _ (.tail _ hp)))))))))))) T kk hd hu ret
theorem re_turn1 {h₀ h : Heap} {L : Addr} {H B P d i D : Addr × Obj} {tl : Led} (N : News h₀ L h (H :: B :: P :: d :: i :: D :: tl)) : News h₀ L h (i :: D :: H :: B :: P :: d :: tl) := News.sub N (allsub (.tail _ (.tail _ (.tail _ (.tail _ (.head _))))) (allsub (.tail _ (.tail _ (.tail _ (.tail _ (.tail _ (.head _)))))) (allsub (.head _) (allsub (.tail _ (.head _)) (allsub (.tail _ (.tail _ (.head _))) (allsub (.tail _ (.tail _ (.tail _ (.head _)))) (fun _ hp => (.tail _ (.tail _ (.tail _ (.tail _ (.tail _ (.tail _ hp)))))))))))))
set_option tactic.hygienic false in
noncomputable def law1 : { P : Prop // Box P → law0.P } := by
  apply Subtype.mk
  intro hCut
  delta law0
  dsimp only
  intros
  obtain ⟨uA, uB, F0⟩ := F_two (a := Str.ofString "name") (b := Str.ofString "units") F0 (fun _ _ _ => rfl)
  ktu_for
  k_steps
  unfold Marked
  rename (@LT.lt Nat _ _ _ ∧ _) => lI
  revert lI
  rename (@LT.lt Nat _ _ _ ∧ _) => lD
  intro lI
  have iH := neG lI.2.1
  have iB := neG lI.2.2.1
  have iP := neG lI.2.2.2.1
  have DH := neG lD.1
  have DB := neG lD.2.1
  have DP := neG lD.2.2.1
  have oH0 : ∀ p ∈ ([(_ + 1 + 1 + 1, za44), (_ + 1 + 1, za45), (_ + 1, oc), (150, tabObj #[])] : Led), p.1 ≠ H := offp (neL q3.1) (offp (neL q3.2.1) (offp (neL q3.2.2.1) (offp (neL q3.2.2.2) (fun p (h : p ∈ ([] : Led)) => nomatch h))))
  have oB0 : ∀ p ∈ ([(_ + 1 + 1 + 1, za44), (_ + 1 + 1, za45), (_ + 1, oc), (150, tabObj #[])] : Led), p.1 ≠ Bd := offp (neL q5.1) (offp (neL q5.2.1) (offp (neL q5.2.2.1) (offp (neL q5.2.2.2) (fun p (h : p ∈ ([] : Led)) => nomatch h))))
  have oP0 : ∀ p ∈ ([(_ + 1 + 1 + 1, za44), (_ + 1 + 1, za45), (_ + 1, oc), (150, tabObj #[])] : Led), p.1 ≠ P := offp q4.1 (offp q4.2.1 (offp q4.2.2.1 (offp q4.2.2.2 (fun p (h : p ∈ ([] : Led)) => nomatch h))))
  have oI0 := offp (a := (_, za44)) (neL lI.2.2.2.2.1) (offp (a := (_, za45)) (neL lI.2.2.2.2.2.1) (offp (a := (_, oc)) (neL lI.2.2.2.2.2.2.1) (offp (a := (150, tabObj #[])) (neL lI.2.2.2.2.2.2.2) (fun p (h : p ∈ ([] : Led)) => nomatch h))))
  have dH0 := hsH
  have dB0 := hsB
  have hI0 := hzs
  have hl0 := hzl
  rename News _ _ _ _ => Na1
  rename Fr _ _ _ _ => Fa1
  k_dflt (refine' turn1_app (x := sA) (oc := oc) Na1 Fa1 ?Bw ?X ?T ?kk ?K ?moc hcell iH iB iP DH DB DP oH0 oB0 oP0 q0 q1 ?k1 ?k2 dH0 dB0 hI0 hl0 ?hd ?hu ?ret)
  case Bw => k_asm
  case X => k_asm
  case T => k_asm
  case kk => exact rfl
  case K =>
    rename_i zt1 zt2 zt3 zt4 zt5 zt6 zt7 zt8
    clear za44 za45 hIn hTop hBel q6 ys P H oH hsH Bd oB hsB oc hcell hcur tk zs hzs hzl q0 q1 q2 q3 q4 q5 m₀ uA uB zt1 zt2 zt3 lD zt4 zt5 zt6 Fa1 zt7 zt8 Na1 lI iH iB iP DH DB DP oH0 oB0 oP0 oI0 dH0 dB0 hI0 hl0
    revert za1 za2 za3 za4 za5 za8 za11
    exact hCut.out
  case moc => k_mem
  case k1 => exact Nat.le_of_ble_eq_true rfl
  case k2 => exact Nat.le_of_ble_eq_true rfl
  case hd => ktr_room
  case hu => ktr_units
  case ret =>
  intro hh1 tk1 vs1 ns1 n1 d1 u1 sc1 r1 t1 xa1 ya1 b1 kb1 gH1 gB1 uA1 uB1 hI1 hl1 de1 ra1 hd1 dH1 dB1 F3 N3
  have oH1 := offp (a := (d1, iTup [.int u1 r1, .int sc1 t1])) (neG (Nat.lt_trans q1 hd1.1)) oH0
  have oB1 := offp (a := (d1, iTup [.int u1 r1, .int sc1 t1])) (neG hd1.1) oB0
  have oP1 := offp (a := (d1, iTup [.int u1 r1, .int sc1 t1])) (neG (Nat.lt_trans q0 (Nat.lt_trans q1 hd1.1))) oP0
  have oI1 := offp (a := (d1, iTup [.int u1 r1, .int sc1 t1])) (neG hd1.2.1) oI0
  dsimp only [UnrPostW]
  k_dflt (refine' unr_end F3 (re_turn1 N3) (offp (neL lI.1) (offp (neL lI.2.1) (offp (neL lI.2.2.1) (offp (neL lI.2.2.2.1) oI1)))) ⟨?sub, ?_⟩)
  case sub => k_subL
  clear F3 N3
  k_steps
  unfold Marked
  rename News _ _ _ _ => Na2
  rename Fr _ _ _ _ => Fa2
  k_dflt (refine' turn1_app (x := sB) (oc := oc) Na2 Fa2 ?Bw ?X ?T ?kk ?K ?moc hcell iH iB iP DH DB DP oH1 oB1 oP1 q0 q1 ?k1 ?k2 dH1 dB1 hI1 hl1 ?hd ?hu ?ret)
  case Bw => k_asm
  case X => k_asm
  case T => k_asm
  case kk => exact rfl
  case K => exact hCut.out _ _ _ _ _ _ _
  case moc => k_mem
  case k1 => exact Nat.le_of_ble_eq_true rfl
  case k2 => exact Nat.le_of_ble_eq_true rfl
  case hd => ktr_room
  case hu => ktr_units
  case ret =>
  intro hh2 tk2 vs2 ns2 n2 d2 u2 sc2 r2 t2 xa2 ya2 b2 kb2 gH2 gB2 uA2 uB2 hI2 hl2 de2 ra2 hd2 dH2 dB2 F3 N3
  have oH2 := offp (a := (d2, iTup [.int u2 r2, .int sc2 t2])) (neG (Nat.lt_trans q1 hd2.1)) oH1
  have oB2 := offp (a := (d2, iTup [.int u2 r2, .int sc2 t2])) (neG hd2.1) oB1
  have oP2 := offp (a := (d2, iTup [.int u2 r2, .int sc2 t2])) (neG (Nat.lt_trans q0 (Nat.lt_trans q1 hd2.1))) oP1
  have oI2 := offp (a := (d2, iTup [.int u2 r2, .int sc2 t2])) (neG hd2.2.1) oI1
  dsimp only [UnrPostW]
  k_dflt (refine' unr_end F3 (re_turn1 N3) (offp (neL lI.1) (offp (neL lI.2.1) (offp (neL lI.2.2.1) (offp (neL lI.2.2.2.1) oI2)))) ⟨?sub, ?_⟩)
  case sub => k_subL
  clear F3 N3
  k_steps
  unfold Marked
  rename News _ _ _ _ => Na3
  rename Fr _ _ _ _ => Fa3
  k_dflt (refine' turn1_app (x := sC) (oc := oc) Na3 Fa3 ?Bw ?X ?T ?kk ?K ?moc hcell iH iB iP DH DB DP oH2 oB2 oP2 q0 q1 ?k1 ?k2 dH2 dB2 hI2 hl2 ?hd ?hu ?ret)
  case Bw => k_asm
  case X => k_asm
  case T => k_asm
  case kk => exact rfl
  case K => exact hCut.out _ _ _ _ _ _ _
  case moc => k_mem
  case k1 => exact Nat.le_of_ble_eq_true rfl
  case k2 => exact Nat.le_of_ble_eq_true rfl
  case hd => ktr_room
  case hu => ktr_units
  case ret =>
  intro hh3 tk3 vs3 ns3 n3 d3 u3 sc3 r3 t3 xa3 ya3 b3 kb3 gH3 gB3 uA3 uB3 hI3 hl3 de3 ra3 hd3 dH3 dB3 F3 N3
  have oH3 := offp (a := (d3, iTup [.int u3 r3, .int sc3 t3])) (neG (Nat.lt_trans q1 hd3.1)) oH2
  have oB3 := offp (a := (d3, iTup [.int u3 r3, .int sc3 t3])) (neG hd3.1) oB2
  have oP3 := offp (a := (d3, iTup [.int u3 r3, .int sc3 t3])) (neG (Nat.lt_trans q0 (Nat.lt_trans q1 hd3.1))) oP2
  have oI3 := offp (a := (d3, iTup [.int u3 r3, .int sc3 t3])) (neG hd3.2.1) oI2
  dsimp only [UnrPostW]
  k_dflt (refine' unr_end F3 (re_turn1 N3) (offp (neL lI.1) (offp (neL lI.2.1) (offp (neL lI.2.2.1) (offp (neL lI.2.2.2.1) oI3)))) ⟨?sub, ?_⟩)
  case sub => k_subL
  clear F3 N3
  k_steps
  unfold Marked
  rename News _ _ _ _ => Na4
  rename Fr _ _ _ _ => Fa4
  k_dflt (refine' turn1_app (x := sD) (oc := oc) Na4 Fa4 ?Bw ?X ?T ?kk ?K ?moc hcell iH iB iP DH DB DP oH3 oB3 oP3 q0 q1 ?k1 ?k2 dH3 dB3 hI3 hl3 ?hd ?hu ?ret)
  case Bw => k_asm
  case X => k_asm
  case T => k_asm
  case kk => exact rfl
  case K => exact hCut.out _ _ _ _ _ _ _
  case moc => k_mem
  case k1 => exact Nat.le_of_ble_eq_true rfl
  case k2 => exact Nat.le_of_ble_eq_true rfl
  case hd => ktr_room
  case hu => ktr_units
  case ret =>
  intro hh4 tk4 vs4 ns4 n4 d4 u4 sc4 r4 t4 xa4 ya4 b4 kb4 gH4 gB4 uA4 uB4 hI4 hl4 de4 ra4 hd4 dH4 dB4 F3 N3
  have oH4 := offp (a := (d4, iTup [.int u4 r4, .int sc4 t4])) (neG (Nat.lt_trans q1 hd4.1)) oH3
  have oB4 := offp (a := (d4, iTup [.int u4 r4, .int sc4 t4])) (neG hd4.1) oB3
  have oP4 := offp (a := (d4, iTup [.int u4 r4, .int sc4 t4])) (neG (Nat.lt_trans q0 (Nat.lt_trans q1 hd4.1))) oP3
  have oI4 := offp (a := (d4, iTup [.int u4 r4, .int sc4 t4])) (neG hd4.2.1) oI3
  dsimp only [UnrPostW]
  k_dflt (refine' unr_end F3 (re_turn1 N3) (offp (neL lI.1) (offp (neL lI.2.1) (offp (neL lI.2.2.1) (offp (neL lI.2.2.2.1) oI4)))) ⟨?sub, ?_⟩)
  case sub => k_subL
  clear F3 N3
  k_steps
  unfold Marked
  rename Fr _ _ _ _ => F9
  rename News _ _ _ _ => N9
  have dH5 := dH4
  rw [stored4, d4_gF] at dH5
  k_dflt (refine' post1_mk (a := d1) (b := d2) (c := d3) (d := d4) F9 ?hP ?hB N9 ?mP ?mT ?mc hcell ?mH ?mB ?m2 ?m3 hI4 hl4 dH5 ?ma ?mb ?mcc ?md de1 de2 de3 de4 ra1 ra2 ra3 ra4 dB4 q6 ⟨q4.2.2.1, q4.2.1, q4.1, q4.2.2.2, q3.1⟩ q0 q1 hd1.1 hd2.1 hd3.1 hd4.1)
  case hP => with_unfolding_all rfl
  case hB => with_unfolding_all rfl
  case mP => k_mem
  case mT => k_mem
  case mc => k_mem
  case mH => k_mem
  case mB => k_mem
  case m2 => k_mem
  case m3 => k_mem
  case ma => k_mem
  case mb => k_mem
  case mcc => k_mem
  case md => k_mem
end
section
open PySem PySem.W PyProof.Rows
theorem off33 : True := by
  w_top off
  trivial
local macro_rules | `(tactic| walk_at "setItem ref str") => `(tactic| (k_here; refine stop_here ?_))
local macro_rules | `(tactic| walk_at "execs cons") => `(tactic| (k_here; k_fold))
local macro_rules | `(tactic| walk_at "eval Call") => `(tactic| (k_here; k_fold))
local macro_rules | `(tactic| walk_at "eval Subscript") => `(tactic| (k_here; k_fold))
local macro_rules | `(tactic| walk_at "callWith") => `(tactic| (k_here; k_fold))
local macro_rules | `(tactic| walk_at "eval BinOp") => `(tactic| (k_here; k_fold))
local macro_rules | `(tactic| walk_at "call ref") => `(tactic| (k_here; with_reducible refine stopCall ?_))
theorem fillP2 (_ : PySem.Challenge.rw_pb0227_01 = PySem.Challenge.rw_pb0227_01) (_ : hd.heap_39 = hd.heap_39) : PySem.Challenge.rw_pb0227_01 = PySem.Challenge.rw_pb0227_01 ∧ hd.heap_39 = hd.heap_39 := by
  k_fill
  exact ⟨rfl, rfl⟩
set_option tactic.hygienic false in
theorem turn1T : law1.1 := by
  delta law1
  dsimp only
  intros
  unfold Turn1Spec
  intro rest H Bd P oH oB oc kvs kvsB vs ns n x tx uA uB m₁ dp un gd outer A₀ base h₀ s Q E moc hoc offH offB offP q0 q1 k1 k2 dH dB hI hl Bw F X N T kk hdp hun ret
  have q2 : @LT.lt Nat _ P Bd := Nat.lt_trans q0 q1
  k_steps
  unfold Marked
  k_dflt (refine' take_call ?B ?F ?X ?N ?T ?kK ?U ?i ?l ?k1 ?k2 ?d ?u ?_)
  case B => k_asm
  case F => k_asm
  case X => k_asm
  case N => k_asm
  case T => k_asm
  case kK => first | exact rfl | assumption
  case U => first | k_updF | fail "upd"
  case i => assumption
  case l => assumption
  case k1 => decide
  case k2 => decide
  case d => ktr_room
  case u => ktr_units
  intro d11 t11 vs11 ns11 n11 h11 tk11 d111 d112 F11 N11 I11 l11
  try dsimp only at N11
  try k_sweep
  try dsimp only
  try k_fold
  k_steps
  unfold Marked
  k_dflt (refine' take_call ?B ?F ?X ?N ?T ?kK ?U ?i ?l ?k1 ?k2 ?d ?u ?_)
  case B => k_asm
  case F => k_asm
  case X => k_asm
  case N => k_asm
  case T => k_asm
  case kK => first | exact rfl | assumption
  case U => first | k_updF | fail "upd"
  case i => assumption
  case l => assumption
  case k1 => decide
  case k2 => decide
  case d => ktr_room
  case u => ktr_units
  intro d12 t12 vs12 ns12 n12 h12 tk12 d121 d122 F12 N12 I12 l12
  try dsimp only at N12
  try k_sweep
  try dsimp only
  try k_fold
  k_steps
  unfold Marked
  k_dflt (refine' dec_call ?B ?F ?X ?N ?T ?kK ?a ?b ?d ?u ?_)
  case B => k_asm
  case F => k_asm
  case X => k_asm
  case N => k_asm
  case T => k_asm
  case kK => first | exact rfl | assumption
  case a => omega
  case b => omega
  case d => ktr_room
  case u => ktr_units
  intro c9 u9 s9 t91 t92 h9 tk9 F9 N9 D9 l9
  k_lt l9
  try k_sweep
  try dsimp only
  try k_fold
  k_steps
  unfold Marked
  k_dflt (refine' kda_set (knd := PySem.strKind _ _) ?F ?N ?U ?d (strKind_is _ _ _ _) ?z ?_)
  case F => k_asm
  case N => k_asm
  case U => first | k_updF | fail "x"
  case d => assumption
  case z => first | rw [sizeLine_eq]; omega | fail "x"
  intro h' o' F' N' hd'
  try dsimp only at N'
  k_steps
  unfold Marked
  k_dflt (refine' take_call ?B ?F ?X ?N ?T ?kK ?U ?i ?l ?k1 ?k2 ?d ?u ?_)
  case B => k_asm
  case F => k_asm
  case X => k_asm
  case N => k_asm
  case T => k_asm
  case kK => first | exact rfl | assumption
  case U => first | k_updF | fail "upd"
  case i => assumption
  case l => assumption
  case k1 => decide
  case k2 => decide
  case d => ktr_room
  case u => ktr_units
  intro d13 t13 vs13 ns13 n13 h13 tk13 d131 d132 F13 N13 I13 l13
  try dsimp only at N13
  try k_sweep
  try dsimp only
  try k_fold
  k_steps
  unfold Marked
  k_dflt (refine' kda_set (knd := PySem.strKind _ _) ?F ?N ?U ?d (strKind_is _ _ _ _) ?z ?_)
  case F => k_asm
  case N => k_asm
  case U => first | k_updF | fail "x"
  case d => assumption
  case z => first | rw [sizeLine_eq]; omega | fail "x"
  intro h' o' F' N' hd'
  try dsimp only at N'
  k_steps
  rename Fr _ _ _ _ => F8
  rename News _ _ _ _ => N8
  obtain ⟨v1, v2, F7⟩ := F_two (a := Str.ofString "name") (b := Str.ofString "units") F8 (fun z h1 h2 => by simp only [if_neg h1, if_neg h2]; rfl)
  rename (@LT.lt Nat _ _ _ ∧ _) => lD
  clear lD
  rename (@LT.lt Nat _ _ _ ∧ _) => lc
  rename isDec _ _ _ => de
  exact ret _ _ _ _ _ _ _ _ _ _ _ _ _ _ _ _ _ _ (by assumption) (by assumption) de (by omega) ⟨lc.2.1, lc.2.2.2⟩ (by assumption) (by assumption) F7 (News.sub N8 (allsub (.tail _ (.tail _ (.head _))) (allsub (.tail _ (.tail _ (.tail _ (.head _)))) (allsub (.tail _ (.tail _ (.tail _ (.tail _ (.head _))))) (allsub (.tail _ (.head _)) (fun _ hp => (.tail _ (.tail _ (.tail _ (.tail _ (.tail _ hp)))))))))))
end
section
local macro_rules | `(tactic| walk_at "newTuple") => `(tactic| (k_here; k_dflt (refine' kup_newTuple ?F ?N ?_ ?z; (case F => k_asm); (case N => k_asm); (case z => (rw [sizeLine_eq]; exact Nat.le_of_ble_eq_true rfl))); intro D' h' F' N' l1; (try k_lt l1); (try k_sweep)))
local macro_rules | `(tactic| walk_at "eval ListComp") => `(tactic| (k_here; (with_reducible show wpAny _ _ (eval (Expr.ListComp _ [PySem.Comprehension.mk _ _ [_] _] _ _) _) _ _ _); refine stop_here ?_))
local macro_rules | `(tactic| k_all) => `(tactic| exact OffBelow.use (by assumption) (by omega))
local macro_rules | `(tactic| k_all) => `(tactic| assumption)
section
open PySem PySem.W PyProof.Rows
theorem off34 : True := by
  w_top off
  trivial
local macro_rules | `(tactic| walk_at "exec For Name Call cons nil") => `(tactic| (k_here; refine stop_here ?_))
local macro_rules | `(tactic| walk_at "pyIter ref") => `(tactic| (k_here; refine stop_here ?_))
local macro_rules | `(tactic| walk_at "call type:range") => `(tactic| (k_here; refine stop_here ?_))
theorem nm_menu1 {i : Int} (h : i.toNat < 4) : isNm (List.getD [sA, sB, sC, sD] i.toNat PySem.Str.empty) := by
  match i.toNat, h with
  | 0, _ => exact .inl rfl
  | 1, _ => exact .inr (.inl rfl)
  | 2, _ => exact .inr (.inr (.inl rfl))
  | 3, _ => exact .inr (.inr (.inr rfl))
theorem nm_menu2 {i : Int} (h : i.toNat < 4) : isNm (List.getD [sB, sC, sD, sA] i.toNat PySem.Str.empty) := by
  match i.toNat, h with
  | 0, _ => exact .inr (.inl rfl)
  | 1, _ => exact .inr (.inr (.inl rfl))
  | 2, _ => exact .inr (.inr (.inr rfl))
  | 3, _ => exact .inl rfl
theorem stopSub {M : Model} {A : Around} {a b : PySem.Expr} {c d : Value} {Q E : Value → Shared → Prop} {s : Shared} (h : Marked (wpAny M A (subscriptTail a b c d) Q E s)) : wpAny M A (subscriptTail a b c d) Q E s := h
local macro_rules | `(tactic| walk_at "subscriptTail") => `(tactic| (k_here; with_reducible refine stopSub ?_))
local macro_rules | `(tactic| walk_at "call builtin:list.append") => `(tactic| (k_here; (with_reducible show wpAny _ _ (call (Value.builtin _) [Value.ref _, _]) _ _ _); k_dflt (refine' append_L ?k1 ?k2 ?k3 ?z ?_; (case k1 => k_asm); (case k2 => k_asm); (case k3 => k_upd); (case z => assumption); k_whole); intro h' F' N'; (try k_sweep)))
local macro_rules | `(tactic| walk_at "TbEnd") => `(tactic| (refine stop_here ?_))
local macro_rules | `(tactic| walk_at "call ref") => `(tactic| (k_here; with_reducible refine stopCall ?_))
theorem fillR1 (_ : PySem.Challenge.rw_pb0227_01 = PySem.Challenge.rw_pb0227_01) (_ : hd.heap_39 = hd.heap_39) : PySem.Challenge.rw_pb0227_01 = PySem.Challenge.rw_pb0227_01 ∧ hd.heap_39 = hd.heap_39 := by
  k_fill
  exact ⟨rfl, rfl⟩
set_option tactic.hygienic false in
noncomputable def rest1 : { P : Prop // Box P → law0.Q } := by
  apply Subtype.mk
  intro hCut
  delta law0
  dsimp only
  intros
  k_steps
  unfold Marked
  (rename Fr _ _ _ _ => F2)
  refine For_invVF F2 rfl rfl ?_
  k_steps
  rename_i Pr _ l1 _ _
  unfold Marked
  k_dflt (refine' take_call ?B ?F ?X ?N ?T ?kK ?U ?i ?l ?k1 ?k2 ?d ?u ?_)
  case B => k_asm
  case F => k_asm
  case X => k_asm
  case N => k_asm
  case T => k_asm
  case kK => first | exact rfl | assumption
  case U => first | k_updF | fail "upd"
  case i => assumption
  case l => assumption
  case k1 => decide
  case k2 => decide
  case d => ktr_room
  case u => ktr_units
  intro d9 t9 vs9 ns9 n9 h9 tk9 d91 d92 F9 N9 I9 l9
  try dsimp only at N9
  try k_sweep
  try dsimp only
  try k_fold
  k_steps
  unfold Marked
  (rename Fr _ _ _ _ => F3)
  (rename News _ _ _ _ => N3)
  refine range1_rows F3 N3 ?_
  intro h4 tk4 t4 u4 v4 hr4 F4 N4 k4
  clear F3 N3
  k_steps
  unfold Marked
  refine pair_loop rfl hr4 d91 d92 F4 N4 I9 l9 c5 (tl_lt l1.2.2.2.2.2.2.2) (Nat.lt_trans c3 c4) rfl rfl rfl ?_ ?_
  · intro i k t vs5 ns5 n5 pv np ps tl' T m5 h5 tk5 own hi I5 l5 hps hpl hsub hoff hpv hown hT1 hT2 hT3 hT4 F5 N5
    dsimp only [envOfC] at F5 N5
    k_steps
    unfold Marked
    k_dflt (refine' take_call ?B ?F ?X ?N ?T ?kK ?U ?i ?l ?k1 ?k2 ?d ?u ?_)
    case B => k_asm
    case F => k_asm
    case X => k_asm
    case N => k_asm
    case T => k_asm
    case kK => first | exact rfl | assumption
    case U => first | k_updF | fail "upd"
    case i => assumption
    case l => assumption
    case k1 => decide
    case k2 => decide
    case d => ktr_room
    case u => ktr_units
    intro d11 t11 vs11 ns11 n11 h11 tk11 d111 d112 F11 N11 I11 l11
    try dsimp only at N11
    try k_sweep
    try dsimp only
    try k_fold
    k_steps
    unfold Marked
    k_dflt (refine' menu_nm ?N ?m ?a ?b ?na ?nb ?nc ?nd ?_)
    case N => k_asm
    case m => first | k_mem | fail "x"
    case a => assumption
    case b => assumption
    case na => first | exact .inl rfl | exact .inr (.inl rfl) | exact .inr (.inr (.inl rfl)) | exact .inr (.inr (.inr rfl))
    case nb => first | exact .inl rfl | exact .inr (.inl rfl) | exact .inr (.inr (.inl rfl)) | exact .inr (.inr (.inr rfl))
    case nc => first | exact .inl rfl | exact .inr (.inl rfl) | exact .inr (.inr (.inl rfl)) | exact .inr (.inr (.inr rfl))
    case nd => first | exact .inl rfl | exact .inr (.inl rfl) | exact .inr (.inr (.inl rfl)) | exact .inr (.inr (.inr rfl))
    intro x9 t9 hx9
    k_steps
    unfold Marked
    k_dflt (refine' take_call ?B ?F ?X ?N ?T ?kK ?U ?i ?l ?k1 ?k2 ?d ?u ?_)
    case B => k_asm
    case F => k_asm
    case X => k_asm
    case N => k_asm
    case T => k_asm
    case kK => first | exact rfl | assumption
    case U => first | k_updF | fail "upd"
    case i => assumption
    case l => assumption
    case k1 => decide
    case k2 => decide
    case d => ktr_room
    case u => ktr_units
    intro d12 t12 vs12 ns12 n12 h12 tk12 d121 d122 F12 N12 I12 l12
    try dsimp only at N12
    try k_sweep
    try dsimp only
    try k_fold
    k_steps
    unfold Marked
    k_dflt (refine' menu_nm ?N ?m ?a ?b ?na ?nb ?nc ?nd ?_)
    case N => k_asm
    case m => first | k_mem | fail "x"
    case a => assumption
    case b => assumption
    case na => first | exact .inl rfl | exact .inr (.inl rfl) | exact .inr (.inr (.inl rfl)) | exact .inr (.inr (.inr rfl))
    case nb => first | exact .inl rfl | exact .inr (.inl rfl) | exact .inr (.inr (.inl rfl)) | exact .inr (.inr (.inr rfl))
    case nc => first | exact .inl rfl | exact .inr (.inl rfl) | exact .inr (.inr (.inl rfl)) | exact .inr (.inr (.inr rfl))
    case nd => first | exact .inl rfl | exact .inr (.inl rfl) | exact .inr (.inr (.inl rfl)) | exact .inr (.inr (.inr rfl))
    intro x9 t9 hx9
    k_steps
    unfold Marked
    rename (_ < _) ∧ _ => lq
    k_dflt (refine' pair_end ?F ?N ?hI ?hl hps hpl ?hx ?hy hsub hoff hown hT1 hT2 ?lT ?lB ?lP ?k1 ?k2 ?k3 ?k4 ?k5 ?k6 ?k7 ?k8 ?k9 ?kT ?m1 ?m2 ?m3)
    case F => k_asm
    case N => k_asm
    case k2 => k_mem
    case k1 => k_mem
    case k3 => k_mem
    case k4 => k_mem
    case k5 => k_mem
    case k6 => k_mem
    case k7 => k_mem
    case k8 => k_mem
    case k9 => k_mem
    case kT => exact fun p hp => by k_mem
    case hI => assumption
    case hl => assumption
    case hx => assumption
    case hy => assumption
    case lT => exact lq.2.2.2.2.2.2.2.2.2.2
    case lB => exact lq.2.2.2.2.2.2.1
    case lP => exact lq.2.2.1
    case m1 => rfl
    case m2 => rfl
    case m3 => rfl
  · intro vs5 ns5 n5 pv np ps tl' m5 h5 tk5 I5 l5 hps hpl hsub hoff F5 N5
    dsimp only [envOfC] at F5 N5
    have hf5 := hf.mono hsub
    clear hf
    dsimp only
    have hfin : FinAt _ _ zb3 Q' := hfin
    have lP : @LT.lt Nat _ P Pr ∧ @LT.lt Nat _ 150 Pr ∧ @LT.lt Nat _ H Pr ∧ @LT.lt Nat _ Bd Pr ∧ @LT.lt Nat _ (zb3.heap.objs.size + 1) Pr ∧ @LT.lt Nat _ (zb3.heap.objs.size + 1 + 1) Pr ∧ @LT.lt Nat _ (zb3.heap.objs.size + 1 + 1 + 1) Pr := ⟨l1.1, l1.2.1, l1.2.2.1, l1.2.2.2.1, l1.2.2.2.2.1, l1.2.2.2.2.2.1, l1.2.2.2.2.2.2.1⟩
    clear F4 N4 hr4
    rename_i zc1 zc2 zc3 zc4
    clear zb42 zb43 zc1 h zc2 m vs ns n tl hI hns c5 q1 zc3 l1 zc4 tk d9 t9 vs9 ns9 n9 h9 tk9 d91 d92 I9 l9 qk ek h4 tk4 t4 u4 v4 k4 hsub
    revert zb1 zb2 zb3 zb4 zb5 zb8 zb11 zb44 zb45 hIn hTop hBel codeHd Q' P H oH Bd oB f gB V B oc hH hV hB hgB lo c1 e1 e2 e3 e4 c2 c3 c4 hoc hy3 hy4 Pr vs5 ns5 n5 pv np ps tl' m5 h5 tk5 I5 l5 hps hpl hoff F5 N5 hf5 hfin lP
    exact hCut.out
end
section
open PySem PySem.W PyProof.Rows
theorem off35 : True := by
  w_top off
  trivial
local macro_rules | `(tactic| walk_at "subscriptTail") => `(tactic| (k_here; with_reducible refine stopSub ?_))
local macro_rules | `(tactic| walk_at "call ref") => `(tactic| (k_here; with_reducible refine stopCall ?_))
theorem fillR2 (_ : PySem.Challenge.rw_pb0227_01 = PySem.Challenge.rw_pb0227_01) (_ : hd.heap_39 = hd.heap_39) : PySem.Challenge.rw_pb0227_01 = PySem.Challenge.rw_pb0227_01 ∧ hd.heap_39 = hd.heap_39 := by
  k_fill
  exact ⟨rfl, rfl⟩
set_option tactic.hygienic false in
noncomputable def rest2 : { P : Prop // Box P → rest1.1 } := by
  apply Subtype.mk
  intro hCut
  delta rest1
  dsimp only
  intros
  have qO : OffBelow tl' Bd := fun p hp => (hoff p hp).1
  have qPr : ∀ p ∈ tl', p.1 ≠ Pr := fun p hp => (hoff p hp).2
  k_steps
  unfold Marked
  k_dflt (refine' take_call ?B ?F ?X ?N ?T ?kK ?U ?i ?l ?k1 ?k2 ?d ?u ?_)
  case B => k_asm
  case F => k_asm
  case X => k_asm
  case N => k_asm
  case T => k_asm
  case kK => first | exact rfl | assumption
  case U => first | k_updF | fail "upd"
  case i => assumption
  case l => assumption
  case k1 => decide
  case k2 => decide
  case d => ktr_room
  case u => ktr_units
  intro d21 t21 vs21 ns21 n21 h21 tk21 d211 d212 F21 N21 I21 l21
  try dsimp only at N21
  try k_sweep
  try dsimp only
  try k_fold
  k_steps
  unfold Marked
  k_dflt (refine' menu_way ?N ?m ?a ?b ?_)
  case N => k_asm
  case m => first | k_mem | fail "x"
  case a => assumption
  case b => assumption
  intro x9 sg9 t9 hw9
  k_steps
  unfold Marked
  k_dflt (refine' take_call ?B ?F ?X ?N ?T ?kK ?U ?i ?l ?k1 ?k2 ?d ?u ?_)
  case B => k_asm
  case F => k_asm
  case X => k_asm
  case N => k_asm
  case T => k_asm
  case kK => first | exact rfl | assumption
  case U => first | k_updF | fail "upd"
  case i => assumption
  case l => assumption
  case k1 => decide
  case k2 => decide
  case d => ktr_room
  case u => ktr_units
  intro d22 t22 vs22 ns22 n22 h22 tk22 d221 d222 F22 N22 I22 l22
  try dsimp only at N22
  try k_sweep
  try dsimp only
  try k_fold
  k_steps
  rename_i Dw _ lDw _ _ _ oR _ _ dR
  k_dflt (refine' call_dict_copy (kvs := d4 _) ?F ?N ?lo ?m ?d ?z ?_)
  case F => k_asm
  case N => k_asm
  case m => first | k_mem | fail "x"
  case lo => assumption
  case d => assumption
  case z => exact Nat.le_of_ble_eq_true rfl
  intro Bf oBf h9 tk9 F9 N9 lBf dBf
  try k_lt lBf
  try k_sweep
  try dsimp only
  try k_fold
  k_steps
  unfold Marked
  k_dflt (refine' plain_call ?B ?F ?X ?N ?T ?kK ?m ?d ?f ?lo ?dd ?uu ?_)
  case B => k_asm
  case F => k_asm
  case X => k_asm
  case N => k_asm
  case T => k_asm
  case kK => first | exact rfl | assumption
  case m => first | k_mem | fail "mem"
  case d => assumption
  case f => exact HeldAt.to (by assumption) (fun p hp => by k_mem)
  case lo => assumption
  case dd => ktr_room
  case uu => ktr_units
  intro Pl oPl fPl hPl tkPl FPl NPl dPl iPl lPl
  k_lt lPl
  try k_sweep
  try dsimp only
  try k_fold
  k_steps
  unfold Marked
  rename_i As _ lAs Dt _ lDt _ _ oC dC _ _ F6 N6
  have oPlt : ∀ p ∈ tl', p.1 ≠ Pl := all_lt_off lPl.2.2.2.2.2.2.2.2.2.2.2
  have oAst : ∀ p ∈ tl', p.1 ≠ As := all_lt_off lAs.2.2.2.2.2.2.2.2.2.2.2.2
  have ne1 : Bd ≠ Pl := Nat.ne_of_lt (by omega)
  have ne2 : Pr ≠ Pl := Nat.ne_of_lt (by omega)
  k_dflt (refine' due_call (tl := (As, listOf #[] 0) :: (Bf, oBf) :: (150, tabObj #[]) :: (H, oH) :: (_, oc) :: (_, oR) :: (_, oC) :: tl') ?B F6 ?X (News.sub N6 (all_sub ?m1 (all_sub ?m2 (all_sub ?m3 (all_sub ?m4 (all_sub ?m5 (all_sub ?m6 (all_sub ?m7 (all_sub ?m8 (all_sub ?m9 (all_sub ?m10 ?ms))))))))))) ?T ?kK ‹isWay _ _› ‹Obj.IsDictOf _ oPl _› ‹Obj.IsDictOf _ oB _› ‹Ints _ V› ‹Ints gB _› (hps.to ?hpm) ne1 ne2 ?offs ?d ?u ?ret)
  case B => k_asm
  case X => k_asm
  case T => k_asm
  case kK => first | exact rfl | assumption
  case m1 => k_mem
  case m2 => k_mem
  case m3 => k_mem
  case m4 => k_mem
  case m5 => k_mem
  case m6 => k_mem
  case m7 => k_mem
  case m8 => k_mem
  case m9 => k_mem
  case m10 => k_mem
  case ms => exact fun p hp => by k_mem
  case hpm => exact fun p hp => by k_mem
  case d => ktr_room
  case u => ktr_units
  case offs =>
    repeat (refine off_cons (by omega) ?_)
    assumption
  case ret =>
  intro oPl2 fPl2 tw2 h7 tk7 F7 N7 dPl2 iPl2
  k_steps
  unfold Marked
  rename Fr _ _ _ _ => F8
  rename News _ _ _ _ => N8
  have nH1 : H ≠ 150 := Nat.ne_of_gt (by omega)
  have nH2 : Bd ≠ 150 := Nat.ne_of_gt (by omega)
  have nH3 : Pr ≠ 150 := Nat.ne_of_gt (by omega)
  have nH4 : As ≠ 150 := Nat.ne_of_gt (by omega)
  have nH5 : Bd ≠ H := Nat.ne_of_gt (by omega)
  have nH6 : Pr ≠ H := Nat.ne_of_gt (by omega)
  have nH7 : As ≠ H := Nat.ne_of_gt (by omega)
  have nH8 : Bd ≠ As := Nat.ne_of_lt (by omega)
  have nH9 : Pr ≠ As := Nat.ne_of_lt (by omega)
  k_dflt (refine' run_call (TS := #[]) (asked := []) (ask0 := []) (tl := (Pl, oPl2) :: (Bf, oBf) :: (_, oc) :: (_, oR) :: (_, oC) :: tl') ?B F8 ?X (News.sub N8 (all_sub ?m1 (all_sub ?m2 (all_sub ?m3 (all_sub ?m4 (all_sub ?m5 (all_sub ?m6 (all_sub ?m7 (all_sub ?m8 (all_sub ?m9 (all_sub ?m10 ?ms))))))))))) ?T ?kK ?C (.inl rfl) ‹isWay _ _› ‹Obj.IsDictOf _ oH _› ‹Obj.IsDictOf _ oB _› ‹Ints gB _› (hps.to ?hpm) (hf5.to ?hpn) trivial (Nat.zero_le _) (Nat.le_trans hpl (by decide)) nH1 nH2 nH3 nH4 nH5 nH6 nH7 nH8 nH9 ?o1 ?o2 ?o3 ?d ?u ?ret)
  case B => k_asm
  case X => k_asm
  case T => k_asm
  case C => k_asm
  case kK => first | exact rfl | assumption
  case m1 => k_mem
  case m2 => k_mem
  case m3 => k_mem
  case m4 => k_mem
  case m5 => k_mem
  case m6 => k_mem
  case m7 => k_mem
  case m8 => k_mem
  case m9 => k_mem
  case m10 => k_mem
  case ms => exact fun p hp => by k_mem
  case hpm => exact fun p hp => by k_mem
  case hpn => exact fun p hp => by k_mem
  case d => ktr_room
  case u => ktr_units
  case o1 =>
    repeat (refine off_cons (by omega) ?_)
    exact qO.use (by omega)
  case o2 =>
    repeat (refine off_cons (by omega) ?_)
    assumption
  case o3 =>
    repeat (refine off_cons (by omega) ?_)
    exact qO.use (by omega)
  case ret =>
  intro TS8 oH8 f8 as8 na8 tl8 tw8 h8 tk8 F9 N9 hTS8 dH8 hf8 hask8 hsub8 hoff8
  have N10 := News.sub N9 (b := (Pl, oPl2) :: (Bf, oBf) :: (_, oc) :: (_, oR) :: (_, oC) :: (150, tabObj TS8) :: (H, oH8) :: (Bd, oB) :: (Pr, listOf pv.toArray np) :: (As, listOf as8.toArray na8) :: tl8) (all_sub (.tail _ (.tail _ (.tail _ (.tail _ (.tail _ (hsub8 _ (by k_mem))))))) (all_sub (.tail _ (.tail _ (.tail _ (.tail _ (.tail _ (hsub8 _ (by k_mem))))))) (all_sub (.tail _ (.tail _ (.tail _ (.tail _ (.tail _ (hsub8 _ (by k_mem))))))) (all_sub (.tail _ (.tail _ (.tail _ (.tail _ (.tail _ (hsub8 _ (by k_mem))))))) (all_sub (.tail _ (.tail _ (.tail _ (.tail _ (.tail _ (hsub8 _ (by k_mem))))))) fun p hp => hp)))))
  clear N9
  have hsub9 : ∀ p ∈ tl', p ∈ tl8 := fun p hp => hsub8 p (by k_mem)
  have qH : ∀ p ∈ tl8, p.1 ≠ H := fun p hp => (hoff8 p hp).1
  have qA : ∀ p ∈ tl8, p.1 ≠ As := fun p hp => (hoff8 p hp).2.1
  have qT : ∀ p ∈ tl8, p.1 ≠ 150 := fun p hp => (hoff8 p hp).2.2
  have kB : @LT.lt Nat _ H Bf ∧ @LT.lt Nat _ Bd Bf ∧ @LT.lt Nat _ Pr Bf ∧ @LT.lt Nat _ 150 Bf := ⟨lBf.2.2.2.2.2.1, lBf.2.2.2.2.2.2.1, lBf.2.2.1, lBf.2.2.2.2.1⟩
  have kP : @LT.lt Nat _ Bf Pl ∧ @LT.lt Nat _ H Pl ∧ @LT.lt Nat _ Bd Pl ∧ @LT.lt Nat _ Pr Pl ∧ @LT.lt Nat _ 150 Pl := ⟨lPl.1, lPl.2.2.2.2.2.2.1, lPl.2.2.2.2.2.2.2.1, lPl.2.2.2.1, lPl.2.2.2.2.2.1⟩
  have kA : @LT.lt Nat _ Pl As ∧ @LT.lt Nat _ Bf As ∧ @LT.lt Nat _ H As ∧ @LT.lt Nat _ Bd As ∧ @LT.lt Nat _ Pr As ∧ @LT.lt Nat _ 150 As := ⟨lAs.1, lAs.2.1, lAs.2.2.2.2.2.2.2.1, lAs.2.2.2.2.2.2.2.2.1, lAs.2.2.2.2.1, lAs.2.2.2.2.2.2.1⟩
  rename isWay _ _ => hway
  rename_i zd1 zd2 zd3 zd4 zd5 zd6 zd7 zd8 zd9 zd10 zd11 zd12 zd13 zd14 zd15 zd16 zd17 zd18
  clear zb44 zb45 oH hH hy3 hy4 vs5 ns5 n5 h5 tk5 I5 l5 hoff qO qPr zd1 zd2 zd3 d21 t21 vs21 ns21 n21 h21 tk21 d211 d212 I21 l21 zd4 zd5 t22 vs22 ns22 n22 h22 tk22 d221 d222 I22 l22 qk ek Dw zd6 lDw zd7 zd8 zd9 zd10 h9 tk9 lBf oPl fPl hPl tkPl dPl iPl lPl zd11 lAs Dt zd12 lDt zd13 zd14 zd15 zd16 zd17 oPlt oAst ne1 ne2 h7 tk7 F8 N8 hsub8
  revert zb1 zb2 zb3 zb4 zb5 zb8 zb11 hIn hTop hBel codeHd Q' P H Bd oB f gB V B oc hV hB hgB lo c1 e1 e2 e3 e4 c2 c3 c4 hoc Pr pv np ps tl' m5 hps hpl hf5 hfin lP x9 sg9 t9 hway d22 oR dR Bf oBf dBf Pl As oC dC oPl2 fPl2 tw2 dPl2 iPl2 zd18 tk nH1 nH2 nH3 nH4 nH5 nH6 nH7 nH8 nH9 TS8 oH8 f8 as8 na8 tl8 tw8 h8 tk8 F9 hTS8 dH8 hf8 hask8 hoff8 N10 hsub9 qH qA qT kB kP kA
  exact hCut.out
end
section
open PySem PySem.W PyProof.Rows
theorem off36 : True := by
  w_top off
  trivial
local macro_rules | `(tactic| walk_at "compareOp NotEq ref ref") => `(tactic| (k_here; refine stop_here ?_))
local macro_rules | `(tactic| walk_at "SrcLP") => `(tactic| (k_here; refine stop_here ?_))
local macro_rules | `(tactic| walk_at "compareOp Eq ref ref") => `(tactic| (k_here; refine stop_here ?_))
local macro_rules | `(tactic| walk_at "eval Dict") => `(tactic| (k_here; refine stop_here ?_))
local macro_rules | `(tactic| walk_at "AskEnd") => `(tactic| (refine stop_here ?_))
theorem drop2 {h₀ h : Heap} {L : Addr} {a b : Addr × Obj} {r : Led} (N : News h₀ L h (a :: b :: r)) : News h₀ L h r := News.sub N fun _ hp => .tail _ (.tail _ hp)
local macro_rules | `(tactic| walk_at "call ref") => `(tactic| (k_here; with_reducible refine stopCall ?_))
theorem fillR3 (_ : PySem.Challenge.rw_pb0227_01 = PySem.Challenge.rw_pb0227_01) (_ : hd.heap_39 = hd.heap_39) : PySem.Challenge.rw_pb0227_01 = PySem.Challenge.rw_pb0227_01 ∧ hd.heap_39 = hd.heap_39 := by
  k_fill
  exact ⟨rfl, rfl⟩
set_option tactic.hygienic false in
noncomputable def rest3 : Cut3 rest2.1 := by
  apply Cut3.mk
  intro hCutP hCutQ hCutR
  delta rest2
  dsimp only
  intros
  k_steps
  · exact absurd a (by simp)
  unfold Marked
  k_dflt (refine' plain_call ?B ?F ?X ?N ?T ?kK ?m ?d ?f ?lo ?dd ?uu ?_)
  case B => k_asm
  case F => k_asm
  case X => k_asm
  case N => k_asm
  case T => k_asm
  case kK => first | exact rfl | assumption
  case m => first | k_mem | fail "mem"
  case d => assumption
  case f => exact HeldAt.to (by assumption) (fun p hp => by k_mem)
  case lo => assumption
  case dd => ktr_room
  case uu => ktr_units
  intro D9 oD9 f9 h9p tk9p F9p N9p d9p i9p l9p
  k_lt l9p
  try k_sweep
  try dsimp only
  try k_fold
  k_steps
  unfold Marked
  k_dflt (refine' ne_plain ?N ?ma ?mb ?da ?db ?hf ?hg ?hVU ?la ?lb ?hu ?_)
  case N => k_asm
  case ma => first | k_mem | fail "x"
  case mb => first | k_mem | fail "x"
  case da => assumption
  case db => assumption
  case hf => assumption
  case hg => assumption
  case hVU => exact fun _ _ => rfl
  case la => exact lo_of (by omega)
  case lb => exact lo_of (by omega)
  case hu => ktr_units
  k_steps
  unfold Marked
  k_dflt (refine' ask_comp (H := H) (As := As) (vs := pv) (n := np) (ps := ps) ?hh ?F ?N ?m (hps.to ?hpm) ?hl ?mH ?mA ?mT hask8 ?turn ?fin)
  case hh => exact rfl
  case F => k_asm
  case N => k_asm
  case m => k_mem
  case hpm => exact fun p hp => by have := hsub9 p hp; k_mem
  case hl => exact Nat.le_trans hpl (by decide)
  case mH => k_mem
  case mA => k_mem
  case mT => k_mem
  case turn =>
    intro x y t1 t2 I oI C oCc D oDd m₂ h tk E' nx hC hx1 hx2 F₁ N₁ sub
    have mR := sub (_, oR) (by k_mem)
    k_steps
    unfold Marked
    exact AskEnd.mk (t := t2) (by k_asm) (by assumption) (by first | assumption | k_asm | (refine allLt_of ?_; assumption))
  case fin =>
  intro D10 ys10 K10 h10 tk10 F10 N10 hys10 hK10 hD10
  have has9 : AskAre tl8 as8 (ps.map _) := hask8
  refine ne_asked (qs := ps.map fun p => (p.2, _)) N10 (.tail _ (List.mem_append.mpr (.inr (by k_mem)))) (.head _) (has9.mono fun p hp => .tail _ (List.mem_append.mpr (.inr (by k_mem)))) (hys10.mono fun p hp => .tail _ hp) ?_ (by ktr_units) ?_
  · intro q hq
    obtain ⟨p, hp, rfl⟩ := List.mem_map.mp hq
    exact (hps.names p hp).2
  obtain ⟨tl9, htl9⟩ : ∃ t, t = K10 ++ tl8 := ⟨_, rfl⟩
  have s9 : ∀ p ∈ tl8, p ∈ tl9 := fun p hp => by rw [htl9]; exact List.mem_append.mpr (.inr hp)
  have Aw9 : Away H As tl9 := fun p hp => by
    rw [htl9] at hp
    exact (List.mem_append.mp hp).elim (hK10 p) (hoff8 p)
  have N11 := News.sub N10 (b := (Pl, oPl2) :: (Bf, oBf) :: (_, oc) :: (_, oR) :: (_, oC) :: (150, tabObj TS8) :: (H, oH8) :: (Bd, oB) :: (Pr, listOf pv.toArray np) :: (As, listOf as8.toArray na8) :: tl9) (all_sub (.tail _ (List.mem_append.mpr (.inr (by k_mem)))) (all_sub (.tail _ (List.mem_append.mpr (.inr (by k_mem)))) (all_sub (.tail _ (List.mem_append.mpr (.inr (by k_mem)))) (all_sub (.tail _ (List.mem_append.mpr (.inr (by k_mem)))) (all_sub (.tail _ (List.mem_append.mpr (.inr (by k_mem)))) (all_sub (.tail _ (List.mem_append.mpr (.inr (by k_mem)))) (all_sub (.tail _ (List.mem_append.mpr (.inr (by k_mem)))) (all_sub (.tail _ (List.mem_append.mpr (.inr (by k_mem)))) (all_sub (.tail _ (List.mem_append.mpr (.inr (by k_mem)))) (all_sub (.tail _ (List.mem_append.mpr (.inr (by k_mem)))) fun p hp => by rw [htl9] at hp; exact .tail _ (List.mem_append.mpr ((List.mem_append.mp hp).elim .inl fun hp => .inr (by k_mem)))))))))))))
  clear N10 hys10 hK10 hD10 htl9
  have hsub11 : ∀ p ∈ tl', p ∈ tl9 := fun p hp => s9 p (hsub9 p hp)
  have qH9 : ∀ p ∈ tl9, p.1 ≠ H := fun p hp => (Aw9 p hp).1
  have qA9 : ∀ p ∈ tl9, p.1 ≠ As := fun p hp => (Aw9 p hp).2.1
  have qT9 : ∀ p ∈ tl9, p.1 ≠ 150 := fun p hp => (Aw9 p hp).2.2
  k_steps
  rotate_left
  · rename Fr _ _ _ _ => F19
    rename News _ _ _ _ => N19
    rename_i zp1
    clear f gB hV hB hgB lo e1 e2 e3 e4 c2 c3 c4 hoc tl' hps hpl hf5 lP hway d22 dR dBf dC fPl2 dPl2 iPl2 zd18 zp1 nH1 nH2 nH3 nH4 nH5 nH6 nH7 nH8 nH9 f8 tw8 h8 tk8 dH8 hf8 hask8 hoff8 hsub9 qH qA qT kB kP kA a D9 oD9 f9 h9p tk9p F9p N9p d9p i9p l9p D10 ys10 K10 tk10 has9 Aw9 hsub11 qH9 qA9 a_1
    revert zb1 zb2 zb3 zb4 zb5 zb8 zb11 hIn hTop hBel codeHd Q' P H Bd oB V B oc c1 Pr pv np ps m5 hfin x9 sg9 t9 oR Bf oBf Pl As oC oPl2 tw2 TS8 oH8 as8 na8 tl8 hTS8 h10 F19 tl9 s9 N19 qT9 tk
    exact hCutP.out
  unfold Marked
  rename Fr _ _ _ _ => F11
  refine comp_pairs_test F11 (by with_unfolding_all rfl) (by decide) rfl (by decide) rfl rfl (by decide) ?_
  walk1
  refine ⟨Pr, pv, np, ps, _, rfl, rfl, F11, N11, by k_mem, hps.to (fun p hp => by have := hsub11 p hp; k_mem), by rw [hps.length]; omega, fun s₂ hs₂ => ?_⟩
  obtain ⟨g2, rfl⟩ := hs₂
  refine ⟨?_, ?_⟩
  · intro a b t1 t2 I C D oI oCc oDd m₂ h tk E' hC hx1 hx2 F₁ N₁
    k_steps
  intro D12 ys12 h12 tk12 F12 N12 off12 hys12
  dsimp only
  k_steps
  unfold Marked
  k_dflt (refine' eq_none ?N ?ma ?mb ?ha ?hq ?hu ?_)
  case N => k_asm
  case ma => first | k_mem | fail "x"
  case mb => first | k_mem | fail "x"
  case ha => assumption
  case hq => exact sameOf_nm (by assumption)
  case hu => ktr_units
  k_steps
  · rename Fr _ _ _ _ => F19
    rename News _ _ _ _ => N19
    have N19 := drop2 N19
    rename_i zq1 zq2 zq3 zq4 zq5
    clear fPl2 dPl2 iPl2 zd18 zq1 tw8 h8 tk8 hask8 hoff8 hsub9 qH qA qT a D9 oD9 f9 h9p tk9p d9p i9p l9p D10 ys10 K10 h10 tk10 g2 D12 ys12 h12 tk12 off12 hys12 zq2 zq4 zq5
    revert zb1 zb2 zb3 zb4 zb5 zb8 zb11 hIn hTop hBel codeHd Q' P H Bd oB f gB V B oc hV hB hgB lo c1 e1 e2 e3 e4 c2 c3 c4 hoc Pr pv np ps tl' m5 hps hpl hf5 hfin lP x9 sg9 t9 hway d22 oR dR Bf oBf dBf Pl As oC dC oPl2 tw2 nH1 nH2 nH3 nH4 nH5 nH6 nH7 nH8 nH9 TS8 oH8 f8 as8 na8 tl8 hTS8 dH8 hf8 kB kP kA has9 tl9 s9 Aw9 hsub11 qH9 qA9 qT9 a_1 zq3 F19 a_2 tk N19
    exact hCutQ.out
  · rename Fr _ _ _ _ => F19
    rename News _ _ _ _ => N19
    have N19 := drop2 N19
    rename_i zr1 zr2 zr3 zr4 zr5
    clear f gB hV hB hgB lo e1 e2 e3 e4 c2 c3 c4 hoc tl' hps hpl hf5 lP hway d22 dR dBf dC fPl2 dPl2 iPl2 zd18 zr1 nH1 nH2 nH3 nH4 nH5 nH6 nH7 nH8 nH9 f8 tw8 h8 tk8 dH8 hf8 hask8 hoff8 hsub9 qH qA qT kB kP kA a D9 oD9 f9 h9p tk9p d9p i9p l9p D10 ys10 K10 h10 tk10 has9 Aw9 hsub11 qH9 qA9 a_1 g2 D12 ys12 h12 tk12 off12 hys12 zr2 zr4 zr5 a_2
    revert zb1 zb2 zb3 zb4 zb5 zb8 zb11 hIn hTop hBel codeHd Q' P H Bd oB V B oc c1 Pr pv np ps m5 hfin x9 sg9 t9 oR Bf oBf Pl As oC oPl2 tw2 TS8 oH8 as8 na8 tl8 hTS8 tl9 s9 qT9 zr3 F19 tk N19
    exact hCutR.out
end
section
open PySem PySem.W PyProof.Rows
theorem fillR4 (_ : PySem.Challenge.rw_pb0227_01 = PySem.Challenge.rw_pb0227_01) (_ : hd.heap_39 = hd.heap_39) : PySem.Challenge.rw_pb0227_01 = PySem.Challenge.rw_pb0227_01 ∧ hd.heap_39 = hd.heap_39 := by
  k_fill
  exact ⟨rfl, rfl⟩
set_option tactic.hygienic false in
theorem restC : rest3.P := by
  delta rest3
  dsimp only
  intros
  unfold Marked
  k_dflt (refine' table_call ?B ?F ?X ?N ?T ?kK ?C (hTS8.mono s9) ?m ?hs qT9 ?d ?u ?ret)
  case B => k_asm
  case F => k_asm
  case X => k_asm
  case N => k_asm
  case T => k_asm
  case C => k_asm
  case kK => first | exact rfl | assumption
  case m => k_mem
  case hs => exact fun p hp => by k_mem
  case d => ktr_room
  case u => ktr_units
  case ret =>
  intro h30 tk30 F30 N30
  dsimp only
  exact hfin _ _ _ _ F30 N30
set_option tactic.hygienic false in
theorem restB : rest3.R := by
  delta rest3
  dsimp only
  intros
  unfold Marked
  k_dflt (refine' table_call ?B ?F ?X ?N ?T ?kK ?C (hTS8.mono s9) ?m ?hs qT9 ?d ?u ?ret)
  case B => k_asm
  case F => k_asm
  case X => k_asm
  case N => k_asm
  case T => k_asm
  case C => k_asm
  case kK => first | exact rfl | assumption
  case m => k_mem
  case hs => exact fun p hp => by k_mem
  case d => ktr_room
  case u => ktr_units
  case ret =>
  intro h30 tk30 F30 N30
  dsimp only
  exact hfin _ _ _ _ F30 N30
end
section
open PySem PySem.W PyProof.Rows
local macro_rules | `(tactic| walk_at "no such place 0") => `(tactic| skip)
theorem off38 : True := by
  w_top off
  trivial
local macro_rules | `(tactic| walk_at "execs cons") => `(tactic| (k_here; refine stop_here ?_))
local macro_rules | `(tactic| walk_at "eval Dict") => `(tactic| (k_here; refine stop_here ?_))
local macro_rules | `(tactic| walk_at "binaryOp Pow int int") => `(tactic| (k_here; (with_reducible refine pow10 ?a ?b ?_); (case a => omega); (case b => omega)))
local macro_rules | `(tactic| walk_at "subscriptTail Name Slice ref ref") => `(tactic| (k_here; with_reducible refine stopSub ?_))
local macro_rules | `(tactic| walk_at "subscriptTail") => `(tactic| (k_here; with_reducible refine stopSub ?_))
local macro_rules | `(tactic| walk_at "call ref") => `(tactic| (k_here; with_reducible refine stopCall ?_))
theorem fillR5 (_ : PySem.Challenge.rw_pb0227_01 = PySem.Challenge.rw_pb0227_01) (_ : hd.heap_39 = hd.heap_39) : PySem.Challenge.rw_pb0227_01 = PySem.Challenge.rw_pb0227_01 ∧ hd.heap_39 = hd.heap_39 := by
  k_fill
  exact ⟨rfl, rfl⟩
theorem free_gen {prog : Program} {w : World} {o : Obj} {kd : KeyKind prog w Str} {n : Int} {a b c d : Tok} (h : o.IsDictOf kd [(sA, .int n a), (sB, .int n b), (sC, .int n c), (sD, .int n d)]) : ∃ a b c d : Tok, o.IsDictOf kd (d4 (gF (.int n a) (.int n b) (.int n c) (.int n d))) := ⟨a, b, c, d, free_dict h⟩
set_option tactic.hygienic false in
noncomputable def rest5 : { P : Prop // Box P → rest3.Q } := by
  apply Subtype.mk
  intro hCut
  delta rest3
  dsimp only
  intros
  have hlen9 : pv.length ≤ 1000 := by rw [hps.length]; omega
  unfold Marked
  k_dflt (refine' kdn_str ?a ?F ?N ?b ?c ?d ?e ?f ?_)
  case a => first | rfl | fail "x"
  case F => k_asm
  case N => k_asm
  case b => exact Top.nolimit (by k_asm)
  case c => first | rfl | fail "x"
  case d => first | rfl | fail "x"
  case e => exact List.cons_ne_nil _ _
  case f => exact Nat.le_of_ble_eq_true rfl
  intro d' h' o' F' N' l1 lo' hd'
  try k_lt l1
  try k_sweep
  k_steps
  unfold Marked
  rename (Obj.IsDictOf _ _ _) => hfr
  have hfr9 := free_gen hfr
  clear hfr
  refine Exists.elim hfr9 fun ta h1 => Exists.elim h1 fun tb h2 => Exists.elim h2 fun tc h3 => Exists.elim h3 fun td hfree => ?_
  clear h1 h2 h3 hfr9
  dsimp only
  refine wpAny_execs_cons ?_
  k_steps
  unfold Marked
  k_dflt (refine' rev_slice ?F ?N ?l ?k ?_ ?s ?t ?z)
  case F => k_asm
  case N => k_asm
  case l => first | k_mem | fail "x"
  case k => exact IsPart.int _ _
  case s => first | with_unfolding_all rfl | fail "x"
  case t => first | kmk_pure | fail "x"
  case z => omega
  intro D' h' F' N' l1
  try k_lt l1
  try k_sweep
  k_steps
  unfold Marked
  k_dflt (refine' kdn_str ?a ?F ?N ?b ?c ?d ?e ?f ?_)
  case a => first | rfl | fail "x"
  case F => k_asm
  case N => k_asm
  case b => exact Top.nolimit (by k_asm)
  case c => first | rfl | fail "x"
  case d => first | rfl | fail "x"
  case e => exact List.cons_ne_nil _ _
  case f => exact Nat.le_of_ble_eq_true rfl
  intro d' h' o' F' N' l1 lo' hd'
  try k_lt l1
  try k_sweep
  k_steps
  unfold Marked
  k_dflt (refine' flip_item ?N ?m ?d ?w ?_)
  case N => k_asm
  case m => first | k_mem | fail "x"
  case d => assumption
  case w => assumption
  intro w9 tw9 hw9
  k_steps
  unfold Marked
  rename (Obj.IsDictOf _ _ _) => hz
  clear hz
  k_dflt (refine' run_call (oH := oH8) (tl := (Pl, oPl2) :: (Bf, oBf) :: (_, oc) :: (_, oR) :: (_, oC) :: tl9) ?B ?F ?X (News.sub ?N (all_sub ?m1 (all_sub ?m2 (all_sub ?m3 (all_sub ?m4 (all_sub ?m5 (all_sub ?m6 (all_sub ?m7 (all_sub ?m8 (all_sub ?m9 (all_sub ?m10 ?ms))))))))))) ?T ?kK ?C (.inr (hTS8.mono ?ts)) ?hw dH8 hfree ints_gF1 (PairsAre.to hps.reverse ?hpm) (hf8.to ?hpn) (has9.mono ?hpk) ?hl0 ?hl1 nH1 ?n2 ?n3 nH4 ?n5 ?n6 nH7 ?n8 ?n9 ?o1 ?o2 ?o3 ?d ?u ?ret)
  case B => k_asm
  case F => k_asm
  case X => k_asm
  case T => k_asm
  case C => k_asm
  case N => k_asm
  case kK => first | exact rfl | assumption
  case m1 => k_mem
  case m2 => k_mem
  case m3 => k_mem
  case m4 => k_mem
  case m5 => k_mem
  case m6 => k_mem
  case m7 => k_mem
  case m8 => k_mem
  case m9 => k_mem
  case m10 => k_mem
  case ms => exact fun p hp => by k_mem
  case ts => exact fun p hp => by have := s9 p hp; k_mem
  case hw => assumption
  case hpm => exact fun p hp => by have := hsub11 p hp; k_mem
  case hpn => exact fun p hp => by have := s9 p hp; k_mem
  case hpk => exact fun p hp => by have := s9 p hp; k_mem
  case hl0 => simp; omega
  case hl1 => rw [List.length_reverse]; omega
  case n2 => exact Nat.ne_of_gt (by omega)
  case n3 => exact Nat.ne_of_gt (by omega)
  case n5 => exact Nat.ne_of_gt (by omega)
  case n6 => exact Nat.ne_of_gt (by omega)
  case n8 => exact Nat.ne_of_gt (by omega)
  case n9 => exact Nat.ne_of_gt (by omega)
  case d => ktr_room
  case u => ktr_units
  case o1 =>
    repeat (refine off_cons (by omega) ?_)
    assumption
  case o2 =>
    repeat (refine off_cons (by omega) ?_)
    assumption
  case o3 =>
    repeat (refine off_cons (by omega) ?_)
    assumption
  case ret =>
  intro TS10 oH10 f10 as10 na10 tl10 tw10 h10x tk10x F20 N20 hTS10 dH10 hf10 hask10 hsub10 hoff10
  rw [runD_undo (ps := ps) ?vs ?vB ?vV hpl hps.names ?vd ?vf] at hf10
  case vs => exact way_sg (by assumption)
  case vB => exact fun _ => by decide
  case vV => assumption
  case vd => assumption
  case vf => exact word_empty (by assumption)
  have N21 := News.sub N20 (b := (Bf, oBf) :: (_, oc) :: (_, oC) :: (150, tabObj TS10) :: (H, oH10) :: tl10) (all_sub (.tail _ (.tail _ (.tail _ (.tail _ (.tail _ (hsub10 _ (by k_mem))))))) (all_sub (.tail _ (.tail _ (.tail _ (.tail _ (.tail _ (hsub10 _ (by k_mem))))))) (all_sub (.tail _ (.tail _ (.tail _ (.tail _ (.tail _ (hsub10 _ (by k_mem))))))) (all_sub (by k_mem) (all_sub (by k_mem) fun p hp => by k_mem)))))
  rename_i ze1 ze2 ze3 ze4 ze5 ze6 ze7 ze8 ze9 ze10 ze11 ze12 ze13 ze14 ze15 ze16 ze17
  clear oB gB hV hB hgB lo e1 e2 e3 e4 c3 c4 pv np hps hpl lP hway d22 dR nH1 nH2 nH3 nH4 nH5 nH6 nH7 nH8 nH9 TS8 oH8 f8 as8 na8 tl8 hTS8 dH8 hf8 kB kP kA has9 s9 Aw9 qH9 qA9 qT9 a_1 zq3 a_2 hlen9 ze2 ze3 ze4 ze5 ze6 ze7 ze8 ze9 ze10 ta tb tc td hfree D' ze11 ze12 d' h' o' F' N' lo' hd' l1 ze14 ze15 ze16 ze17 w9 tw9 hw9 as10 na10 tw10 N20 hask10
  revert zb1 zb2 zb3 zb4 zb5 zb8 zb11 hIn hTop hBel codeHd Q' P H Bd f V B oc c1 c2 hoc Pr ps tl' m5 hf5 hfin x9 sg9 t9 oR Bf oBf dBf Pl As oC dC oPl2 tw2 tl9 hsub11 tk ze1 ze13 TS10 oH10 f10 tl10 h10x tk10x F20 hTS10 dH10 hf10 hsub10 hoff10 N21
  exact hCut.out
end
section
open PySem PySem.W PyProof.Rows
theorem off39 : True := by
  w_top off
  trivial
local macro_rules | `(tactic| walk_at "CmpEnd") => `(tactic| (refine stop_here ?_))
local macro_rules | `(tactic| walk_at "compareOp NotEq ref ref") => `(tactic| (k_here; refine stop_here ?_))
local macro_rules | `(tactic| walk_at "subscriptTail") => `(tactic| (k_here; with_reducible refine stopSub ?_))
local macro_rules | `(tactic| walk_at "call ref") => `(tactic| (k_here; with_reducible refine stopCall ?_))
theorem fillR6 (_ : PySem.Challenge.rw_pb0227_01 = PySem.Challenge.rw_pb0227_01) (_ : hd.heap_39 = hd.heap_39) : PySem.Challenge.rw_pb0227_01 = PySem.Challenge.rw_pb0227_01 ∧ hd.heap_39 = hd.heap_39 := by
  k_fill
  exact ⟨rfl, rfl⟩
set_option tactic.hygienic false in
theorem rest6 : rest5.1 := by
  delta rest5
  dsimp only
  intros
  k_steps
  unfold Marked
  have loH : (H == sysModules) = false := lo_of (by omega)
  refine comp_dict_test (by k_asm) (by with_unfolding_all rfl) (by decide) rfl (by decide) rfl ?_
  walk1
  k_dflt (refine' cmp_comp (H := H) ?hh ?F N21 ?m dH10 loH ?turn ?fin)
  case hh => exact rfl
  case F => k_asm
  case m => k_mem
  case turn =>
    intro k t I oI C oCc D oDd m₂ h tk E' hk hC hx F₁ N₁
    obtain ⟨a, ea, da⟩ := hf10 k hk
    obtain ⟨b, eb, db⟩ := hf5 k hk
    have db' : DecAt tl10 b _ := DecAt.to db fun p hp => hsub10 _ (by have := hsub11 p hp; k_mem)
    k_steps
    unfold Marked
    k_dflt (refine' kda_item (knd := PySem.strKind _ _) (kvs := d4 _) ?N ?m ?d (strKind_is _ _ _ _) (d4_get ?x ?e) ?_)
    case N => k_asm
    case m => first | k_mem | fail "x"
    case d => assumption
    case x => assumption
    case e => assumption
    k_steps
    unfold Marked
    k_dflt (refine' kda_item (knd := PySem.strKind _ _) (kvs := d4 _) ?N ?m ?d (strKind_is _ _ _ _) (d4_get ?x ?e) ?_)
    case N => k_asm
    case m => first | k_mem | fail "x"
    case d => assumption
    case x => assumption
    case e => assumption
    k_steps
    unfold Marked
    k_dflt (refine' cmp_call ?B ?F ?X ?N ?T ?kK ?x ?y ?d ?u ?_)
    case B => k_asm
    case F => k_asm
    case X => k_asm
    case N => k_asm
    case T => k_asm
    case kK => first | exact rfl | assumption
    case x => exact DecAt.to (by assumption) (fun p hp => by k_mem)
    case y => exact DecAt.to (by assumption) (fun p hp => by k_mem)
    case d => ktr_room
    case u => ktr_units
    intro t9 h9 tk9 F9 N9
    try k_sweep
    try dsimp only
    try k_fold
    k_steps
    unfold Marked
    exact CmpEnd.mk (by k_asm) (by assumption)
  case fin =>
  intro D22 h22 tk22 F22 N22
  k_steps
  unfold Marked
  k_dflt (refine' ne_none ?N ?ma ?mb ?hu ?_)
  case N => k_asm
  case ma => first | k_mem | fail "x"
  case mb => first | k_mem | fail "x"
  case hu => ktr_units
  k_steps
  unfold Marked
  k_dflt (refine' table_call ?B ?F ?X ?N ?T ?kK ?C hTS10 ?m ?hs (fun p hp => (hoff10 p hp).2.2) ?d ?u ?ret)
  case B => k_asm
  case F => k_asm
  case X => k_asm
  case N => k_asm
  case T => k_asm
  case C => k_asm
  case kK => first | exact rfl | assumption
  case m => k_mem
  case hs => exact fun p hp => by k_mem
  case d => ktr_room
  case u => ktr_units
  case ret =>
  intro h30 tk30 F30 N30
  dsimp only
  exact hfin _ _ _ _ F30 N30
end
end
section
open PySem PySem.W PyProof.Rows
theorem fin_A : law0.P := law1.2 (Box.mk turn1T)
theorem fin_3 : rest3.Q := rest5.2 (Box.mk rest6)
theorem fin_2 : rest2.1 := rest3.by_ (Box.mk restC) (Box.mk fin_3) (Box.mk restB)
theorem fin_1 : rest1.1 := rest2.2 (Box.mk fin_2)
theorem fin_0 : law0.Q := rest1.2 (Box.mk fin_1)
theorem the_law : PySem.Challenge.rw_pb0227_01.Holds := law0.by_ (Box.mk fin_A) (Box.mk fin_0)
end
end Mine
theorem PySem.Challenge.cw_pb0227_01_holds : PySem.Challenge.rw_pb0227_01.Holds := by
  exact Mine.the_law
