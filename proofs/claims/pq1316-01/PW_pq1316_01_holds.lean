import PyProof.Rows.All
import Wide.All
import OpenK.AllK
import Wide.FinOn
import Lean
import PySem.Challenge.RW_pq1316_01
open PySem PySem.W PyProof.Rows
set_option Elab.async false
namespace Mine
set_option maxRecDepth 100000
set_option maxRecDepth 100000 in
set_option maxHeartbeats 8000000 in
open_top hd for PySem.Challenge.rw_pq1316_01
local macro_rules | `(tactic| walk_at $s:str) => `(tactic| k_extra $s)
theorem fresh_P01 : True := by
  w_top off
  exact trivial
noncomputable abbrev PR : Program := PySem.Challenge.rw_pq1316_01.row.prog
theorem fillDummy (w : World) (h : Heap) : PySem.Challenge.rw_pq1316_01.Holds → (hd.heap_39 w.params).In h → True := by
  k_fill
  intros; trivial

/-- what a call of the text's def gives, from any frame of a function -/
noncomputable def Gives (w : World) (f : Addr) (need : Nat) (news : List (Addr × Obj)) (vs : List Value) (P : Value → List (Addr × Obj) → Prop) : Prop :=
  ∀ (loose : List Str) (mean : ExcName → Option Value) (mg mb : Str → Option Value) (dp un : Nat) (gd : Option (List Code)) (cn : Str) (cs : Scope) (a : Addr) (ccd : Value) (cl : List (Str × Addr)) (outer : List Env) (A₀ : Around) (base h₀ : Heap) (L : Addr) (m : Str → Option Value) (s : Shared) (Q E : Value → Shared → Prop),
    Below A₀ base outer h₀ → Fr h₀ L s.heap m → (hd.heap_39 w.params).In h₀ → News h₀ L s.heap news → Top hd.view_39 loose mean mg mb h₀ → cs.kind = .function → dp + need < recursionLimit → un + 8 * need < cLine →
    (∀ v news' h' tk', Fr h₀ L h' m → News h₀ L h' news' → P v news' → Q v { s with heap := h', toks := tk' }) →
    wpAny (model PR w) (ktrTop dp un gd cn cs L a ccd cl outer) (call (.ref f) vs) Q E s

theorem Gives.use {w : World} {f : Addr} {need : Nat} {news : List (Addr × Obj)} {vs : List Value} {P : Value → List (Addr × Obj) → Prop} (G : Gives w f need news vs P)
    {loose : List Str} {mean : ExcName → Option Value} {mg mb : Str → Option Value} {dp un : Nat} {gd : Option (List Code)} {cn : Str} {cs : Scope} {a : Addr} {ccd : Value} {cl : List (Str × Addr)} {outer : List Env} {A₀ : Around} {base h₀ : Heap} {L : Addr} {m : Str → Option Value} {s : Shared} {Q E : Value → Shared → Prop}
    (hB : Below A₀ base outer h₀) (hF : Fr h₀ L s.heap m) (hK : (hd.heap_39 w.params).In h₀) (hN : News h₀ L s.heap news) (hT : Top hd.view_39 loose mean mg mb h₀) (hk : cs.kind = .function) (hd : dp + need < recursionLimit) (hu : un + 8 * need < cLine)
    (hret : ∀ v news' h' tk', Fr h₀ L h' m → News h₀ L h' news' → P v news' → Q v { s with heap := h', toks := tk' }) :
    wpAny (model PR w) (ktrTop dp un gd cn cs L a ccd cl outer) (call (.ref f) vs) Q E s :=
  G _ _ _ _ _ _ _ _ _ _ _ _ _ _ _ _ _ _ _ _ _ hB hF hK hN hT hk hd hu hret

theorem Gives.go {w : World} {f : Addr} {need : Nat} {news : List (Addr × Obj)} {vs : List Value} {P : Value → List (Addr × Obj) → Prop}
    {loose : List Str} {mean : ExcName → Option Value} {mg mb : Str → Option Value} {dp un : Nat} {gd : Option (List Code)} {cn : Str} {cs : Scope} {a : Addr} {ccd : Value} {cl : List (Str × Addr)} {outer : List Env} {A₀ : Around} {base h₀ : Heap} {L : Addr} {m : Str → Option Value} {s : Shared} {Q E : Value → Shared → Prop}
    (hB : Below A₀ base outer h₀) (hF : Fr h₀ L s.heap m) (hK : (hd.heap_39 w.params).In h₀) (hN : News h₀ L s.heap news) (hT : Top hd.view_39 loose mean mg mb h₀) (hk : cs.kind = .function) (G : Gives w f need news vs P) (hd : dp + need < recursionLimit) (hu : un + 8 * need < cLine)
    (hret : ∀ v news' h' tk', Fr h₀ L h' m → News h₀ L h' news' → P v news' → Q v { s with heap := h', toks := tk' }) :
    wpAny (model PR w) (ktrTop dp un gd cn cs L a ccd cl outer) (call (.ref f) vs) Q E s :=
  G.use hB hF hK hN hT hk hd hu hret

/-- an int of a size that nothing in the model minds -/
noncomputable def Sm (x : Int) : Prop := x.natAbs < 2 ^ 1000
theorem sm_of {x : Int} (h : x.natAbs < 10 ^ 100) : Sm x := Nat.lt_trans h (by decide +kernel)
theorem Sm.bits {x : Int} (h : Sm x) : Builtin.Int.intBits x ≤ 1000 := by
  unfold Builtin.Int.intBits
  split
  · omega
  · rename_i hx
    have hx : x.natAbs ≠ 0 := by simpa using hx
    have := (Nat.log2_lt hx).2 h
    omega
theorem Sm.mul {a b : Int} (ha : Sm a) (hb : Sm b) : IntMulOk a b := IntMulOk.of_bits (Nat.le_trans ha.bits (by decide)) (Nat.le_trans hb.bits (by decide))
theorem Sm.div {a b : Int} (hb : Sm b) : Builtin.divisionGoesByPylong a b = false := by
  unfold Builtin.divisionGoesByPylong
  dsimp only
  have : ¬ ((if (b == 0) = true then 0 else b.natAbs.log2 / 30 + 1) > 300) := by
    split
    · omega
    · rename_i hx
      have hx : b.natAbs ≠ 0 := by simpa using hx
      have := (Nat.log2_lt hx).2 hb
      omega
  rw [decide_eq_false this]; rfl
section
variable {prog : Program} {w : World} {A : Around} {E : Value → Shared → Prop} {s : Shared} {a b : Int} {t u : Tok} {Q : Value → Shared → Prop}
theorem r_fdiv (hb : b ≠ 0) (hs : Sm b) (h : Q (.int (a.fdiv b) s.toks) { s with toks := s.toks + 1 }) : wpAny (model prog w) A (binaryOp .FloorDiv (.int a t) (.int b u)) Q E s :=
  floordiv_int hb h (Or.inl hs.div)
theorem r_mul (ha : Sm a) (hb : Sm b) (h : Q (.int (a * b) s.toks) { s with toks := s.toks + 1 }) : wpAny (model prog w) A (binaryOp .Mult (.int a t) (.int b u)) Q E s :=
  mul_int h (ha.mul hb)
end
/- the side conditions of the int rules -/
theorem lines_1 : True := by
  k_with "SM" => (first | assumption | exact sm_of (by omega) | exact sm_of (by assumption))
  k_with "binaryOp FloorDiv int int" => ((k_here; refine' r_fdiv (by omega) (by walk_at "SM") ?_; k_whole))
  k_with "binaryOp Mult int int" => ((k_here; refine' r_mul (by walk_at "SM") (by walk_at "SM") ?_; k_whole))
  exact trivial

theorem exI {x y : Int} {t : Tok} (h : x = y) : ∃ t', Value.int x t = Value.int y t' := ⟨t, by rw [h]⟩
theorem exS {x y : Str} {t : Tok} (h : x = y) : ∃ t', Value.str x t = Value.str y t' := ⟨t, by rw [h]⟩
theorem fdiv_eq {n d : Int} (hd : 0 < d) : n.fdiv d = n / d := Int.fdiv_eq_ediv_of_nonneg n (Int.le_of_lt hd)
theorem fmod_eq {n d : Int} (hd : 0 < d) : n.fmod d = n % d := Int.fmod_eq_emod_of_nonneg n (Int.le_of_lt hd)

/-- the law of nearest_whole -/
noncomputable def nw (n d : Int) : Int :=
  if d < 2 * (n - n.fdiv d * d) ∨ (2 * (n - n.fdiv d * d) = d ∧ (n.fdiv d).fmod 2 = 1) then n.fdiv d + 1 else n.fdiv d
theorem fdiv_abs {n d : Int} (hd : 0 < d) : (n.fdiv d).natAbs ≤ n.natAbs := by
  rw [fdiv_eq hd]; exact Int.natAbs_ediv_le_natAbs n d
theorem rest_abs {n d : Int} (hd : 0 < d) : (n - n.fdiv d * d).natAbs ≤ d.natAbs := by
  rw [fdiv_eq hd]
  have h1 := Int.emod_nonneg n (Int.ne_of_gt hd)
  have h2 := Int.emod_lt_of_pos n hd
  have h3 : n - n / d * d = n % d := by rw [Int.emod_def, Int.mul_comm]
  omega
set_option maxHeartbeats 4000000 in
theorem nw_gives (w : World) (news) (n d : Int) (tn td : Tok) (h0 : 0 < d) (hn : n.natAbs < 10 ^ 90) (hd : d.natAbs < 10 ^ 90) :
    Gives w 21 1 news [.int n tn, .int d td] (fun v news' => (∃ t, v = .int (nw n d) t) ∧ news = news') := by
  have hlow : Sm (n.fdiv d) := sm_of (by have := fdiv_abs (n := n) h0; omega)
  have hrest : Sm (n - n.fdiv d * d) := sm_of (by have := rest_abs (n := n) h0; omega)
  unfold Gives
  intro loose mean mg mb dp un gd cn cs a ccd cl outer A₀ base h₀ L m s Q E hB hF hK hN hT hk hdp hun hret
  refine wpAny_call ?_
  (k_dflt cell_enter)
  k_steps
  all_goals exact hret _ _ _ _ (by assumption) (by assumption) ⟨exI (by unfold nw; simp [*]), rfl⟩
theorem fresh_P02 : True := by
  w_top off
  exact trivial
/-- a stop for the walk -/
noncomputable def Paused (p : Prop) : Prop := p
theorem Paused.intro {p : Prop} (h : Paused p) : p := h
theorem Paused.go {p : Prop} (h : p) : Paused p := h
noncomputable abbrev tup (vs : List Value) : Obj := { cls := .type "tuple", data := .seq vs.toArray }
local macro_rules | `(tactic| k_mem) => `(tactic| with_reducible assumption)
theorem lines_2 : True := by
  k_with "exec While" => ((k_here; refine Paused.intro ?_))
  k_with "exec While Compare" => ((k_here; refine Paused.intro ?_))
  k_with "exec While Compare cons" => ((k_here; refine Paused.intro ?_))
  k_with "exec While Compare cons nil" => ((k_here; refine Paused.intro ?_))
  exact trivial

/-- the tens' exponent of n / d -/
noncomputable def IsExp (n d e : Int) : Prop :=
  (0 ≤ e → d * 10 ^ e.toNat ≤ n ∧ n < 10 * (d * 10 ^ e.toNat)) ∧ (e < 0 → d ≤ n * 10 ^ (-e).toNat ∧ n * 10 ^ (-e).toNat < 10 * d)
open Classical in
noncomputable def expo (n d : Int) : Int := if h : ∃ e, IsExp n d e then h.choose else 0

theorem p10_pos (k : Nat) : 0 < (10 : Int) ^ k := Int.pow_pos (by decide)
theorem p10_succ (k : Nat) : (10 : Int) ^ (k + 1) = 10 * 10 ^ k := by rw [Int.pow_succ, Int.mul_comm]
theorem mul_p10_le {a : Int} (ha : 0 ≤ a) {j k : Nat} (h : j ≤ k) : a * 10 ^ j ≤ a * 10 ^ k := by
  induction h with
  | refl => exact Int.le_refl _
  | step _ ih =>
    refine Int.le_trans ih ?_
    rename_i m _
    have h1 : 0 ≤ a * 10 ^ m := Int.mul_nonneg ha (Int.le_of_lt (p10_pos m))
    have h2 : a * 10 ^ (m + 1) = 10 * (a * 10 ^ m) := by rw [p10_succ, Int.mul_left_comm]
    show a * 10 ^ m ≤ a * 10 ^ (m + 1)
    rw [h2]; omega
theorem isExp_lt {n d e e' : Int} (hn : 0 < n) (hd : 0 < d) (h : IsExp n d e) (h' : IsExp n d e') (hl : e < e') : False := by
  by_cases h0 : 0 ≤ e
  · have a := (h.1 h0).2
    have b := (h'.1 (by omega)).1
    have c := mul_p10_le (Int.le_of_lt hd) (j := e.toNat + 1) (k := e'.toNat) (by omega)
    rw [p10_succ, Int.mul_left_comm] at c
    omega
  · have a := (h.2 (by omega)).2
    by_cases h1 : 0 ≤ e'
    · have b := (h'.1 h1).1
      have c := mul_p10_le (Int.le_of_lt hd) (j := 0) (k := e'.toNat) (by omega)
      have c' := mul_p10_le (Int.le_of_lt hn) (j := 1) (k := (-e).toNat) (by omega)
      simp only [Int.pow_zero, Int.mul_one] at c
      rw [Int.pow_succ, Int.pow_zero] at c'
      omega
    · have b := (h'.2 (by omega)).1
      have c := mul_p10_le (Int.le_of_lt hn) (j := (-e').toNat + 1) (k := (-e).toNat) (by omega)
      rw [p10_succ, Int.mul_left_comm] at c
      omega
theorem isExp_unique {n d e e' : Int} (hn : 0 < n) (hd : 0 < d) (h : IsExp n d e) (h' : IsExp n d e') : e = e' := by
  rcases Int.lt_trichotomy e e' with c | c | c
  · exact (isExp_lt hn hd h h' c).elim
  · exact c
  · exact (isExp_lt hn hd h' h c).elim
theorem expo_is {n d e : Int} (hn : 0 < n) (hd : 0 < d) (h : IsExp n d e) : expo n d = e := by
  have hx : ∃ e, IsExp n d e := ⟨e, h⟩
  unfold expo
  rw [dif_pos hx]
  exact isExp_unique hn hd hx.choose_spec h
theorem expo_end {n d d1 n1 e1 e2 : Int} (hd1 : d1 = d * 10 ^ e1.toNat) (he1 : 0 ≤ e1) (hx1 : n < 10 * d1) (hle : e2 ≤ e1)
    (hn1 : n1 = n * 10 ^ (e1 - e2).toNat) (hor : e2 = e1 ∨ (e1 = 0 ∧ n1 < 10 * d1)) (hx2 : d1 ≤ n1) (hn : 0 < n) (hd : 0 < d) : expo n d = e2 := by
  refine expo_is hn hd ⟨fun h => ?_, fun h => ?_⟩
  · have e : e2 = e1 := by omega
    subst e
    rw [← hd1]
    simp at hn1
    omega
  · obtain ⟨e, hlt⟩ : e1 = 0 ∧ n1 < 10 * d1 := by omega
    subst e
    rw [Int.zero_sub] at hn1
    rw [← hn1]
    simp at hd1
    omega
theorem lines_3 : True := by
  k_with "SAME" => ((intro z h2 h3; (simp only [List.forall_mem_cons, List.not_mem_nil, false_implies, implies_true, and_true, ne_eq] at h2); (try simp only [List.contains_cons, List.contains_nil, Bool.or_false, Bool.or_eq_false_iff, beq_eq_false_iff_ne, ne_eq] at h3); (simp [kstB, h2, h3]; done)))
  k_with "KswEnd" => ((refine Paused.intro ?_))
  exact trivial
set_option maxHeartbeats 4000000 in
theorem expo_gives (w : World) (news) (x : Addr) (p q : Int) (tp tq : Tok) (hx : (x, tup [.int p tp, .int q tq]) ∈ news) (hp : p ≠ 0) (hq : 0 < q) (hp' : p.natAbs < 10 ^ 40) (hq' : q.natAbs < 10 ^ 40) :
    Gives w 28 1 news [.ref x] (fun v news' => (∃ t, v = .int (expo p.natAbs q) t) ∧ news = news') := by
  unfold Gives
  intro loose mean mg mb dp un gd cn cs a ccd cl outer A₀ base h₀ L m s Q E hB hF hK hN hT hk hdp hun hret
  refine wpAny_call ?_
  (k_dflt cell_enter)
  have en : (if p < 0 then -p else p) = (p.natAbs : Int) := by split <;> omega
  k_steps
  unfold Paused
  rename Fr _ _ _ _ => F1
  rename News _ _ _ _ => N1
  refine' ksw_while (fun _ => news) (fun c : Int × Int × Tok × Tok => [("d", .int c.1 c.2.2.1), ("e", .int c.2.1 c.2.2.2)]) (fun _ => True) []
    (fun c => 0 < c.1 ∧ 0 ≤ c.2.1 ∧ c.1 = q * 10 ^ c.2.1.toNat ∧ (c.2.1 = 0 ∨ c.1 ≤ p.natAbs) ∧ c.1 < 10 ^ 41) (fun c => ((p.natAbs : Int) - c.1).toNat) (q, 0, _, _) F1 N1 trivial ?wK ?wP ?wT
  case wK => kst_all
  case wP => exact ⟨hq, Int.le_refl _, by simp, .inl rfl, by dsimp only; omega⟩
  case wT =>
    rintro ⟨d1, e1, t1, t2⟩ u h tk - ⟨hd0, he0, hde, hor, hb⟩ F N
    clear F1 N1
    dsimp only at hd0 he0 hde hor hb F N
    k_steps
    · rename (_ ≤ _) => hc
      rw [en] at hc
      refine' ksw_end (_, _, _, _) ?eF ?eN ?eL trivial ?eK ?eR ?eP ?eM
      case eF => assumption
      case eN => assumption
      case eL => exact fun p hp => hp
      case eK => kst_all
      case eR => walk_at "SAME"
      case eP =>
        dsimp only
        refine ⟨by omega, by omega, ?_, by omega, by omega⟩
        rw [show (e1 + 1).toNat = e1.toNat + 1 by omega, Int.pow_succ, hde, Int.mul_assoc]
      case eM => dsimp only; omega
    · rename (¬ _ ≤ _) => hc
      rw [en] at hc
      unfold Paused
      rename Fr _ _ _ _ => F1
      rename News _ _ _ _ => N1
      refine' ksw_while (fun _ => news) (fun c : Int × Int × Tok × Tok => [("n", .int c.1 c.2.2.1), ("e", .int c.2.1 c.2.2.2)]) (fun _ => True) []
        (fun c => 0 < c.1 ∧ c.2.1 ≤ e1 ∧ c.1 = p.natAbs * 10 ^ (e1 - c.2.1).toNat ∧ (c.2.1 = e1 ∨ (e1 = 0 ∧ c.1 < 10 * d1))) (fun c => (d1 - c.1).toNat) (_, e1, _, _) F1 N1 trivial ?wK ?wP ?wT
      case wK => kst_all
      case wP =>
        dsimp only
        rw [en]
        exact ⟨by omega, Int.le_refl _, by simp, .inl rfl⟩
      case wT =>
        rintro ⟨n1, e2, t3, t4⟩ u2 h2 tk2 - ⟨hn0, hle, hne, hor2⟩ F N
        clear F1 N1
        dsimp only at hn0 hle hne hor2 F N
        have hb2 : n1.natAbs < 10 ^ 60 := by
          rcases hor2 with e | ⟨e, h⟩
          · subst e; simp at hne; omega
          · omega
        k_steps
        · rename (_ < _) => hc2
          have e10 : e1 = 0 := by
            rcases hor2 with e | ⟨e, h⟩
            · subst e
              simp at hne
              omega
            · exact e
          refine' ksw_end (_, _, _, _) ?eF ?eN ?eL trivial ?eK ?eR ?eP ?eM
          case eF => assumption
          case eN => assumption
          case eL => exact fun p hp => hp
          case eK => kst_all
          case eR => walk_at "SAME"
          case eP =>
            dsimp only
            refine ⟨by omega, by omega, ?_, by omega⟩
            rw [show (e1 - (e2 - 1)).toNat = (e1 - e2).toNat + 1 by omega, Int.pow_succ, hne, Int.mul_assoc]
          case eM => dsimp only; omega
        · rename (¬ _ < _) => hc2
          exact hret _ _ _ _ (by assumption) (by assumption) ⟨exI (expo_end hde he0 (by omega) hle hne hor2 (by omega) (by omega) hq).symm, rfl⟩
theorem fresh_P03 : True := by
  w_top off
  exact trivial
section
variable {prog : Program} {w : World} {A : Around} {E : Value → Shared → Prop} {s : Shared} {a b : Int} {t u v : Tok} {h₀ : Heap} {L : Addr} {m : Str → Option Value} {news news' : List (Addr × Obj)}
theorem r_divmod {Q : Value → Shared → Prop} (F : Fr h₀ L s.heap m) (N : News h₀ L s.heap news) (hb : b ≠ 0) (hs : Sm b)
    (h : ∀ D h' t1 t2 tk, Fr h₀ L h' m → News h₀ L h' ((D, tup [.int (a.fdiv b) t1, .int (a.fmod b) t2]) :: news) → (∀ p ∈ news, p.1 < D) → Q (.ref D) { s with heap := h', toks := tk }) :
    wpAny (model prog w) A (call (.builtin "divmod") [.int a t, .int b u]) Q E s :=
  divmod_N F N hb (fun h' F' N' => h _ h' _ _ _ F' N' fun p hp => Heap.lt_size (N p hp).1) (Or.inl hs.div)
theorem r_str {Q : Value → Shared → Prop} (ha : Sm a) (h : Q (.str (Str.ofString (toString a)) s.toks) { s with toks := s.toks + 1 }) : wpAny (model prog w) A (call (.type "str") [.int a t]) Q E s := by
  refine P.str_of_int ?_ h
  by_cases hx : a.natAbs = 0
  · rw [hx]; decide
  · exact Nat.lt_trans ((Nat.log2_lt hx).2 ha) (by decide)
theorem r_rjust {Q : Value → Shared → Prop} {x f : Str} {i : Int} (hi : PadOk i = true) (hf : f.length = 1) (h : ∀ t' k, Q (.str (Txt.rjustF x i (f.cps.getD 0 0)) t') { s with toks := k }) :
    wpAny (model prog w) A (call (.builtin "str.rjust") [.str x t, .int i u, .str f v]) Q E s := rjust_fill hi hf h
theorem r_join {Q : Value → Shared → Prop} {x : Str} {D : Addr} {l : List (Str × Tok)} {c : Nat} (N : News h₀ L s.heap news) (hD : (D, W.listOf (strValues l).toArray c) ∈ news) (hj : JoinOk x (l.map (·.1)) = true)
    (h : ∀ t' k, Q (.str (Txt.join x (l.map (·.1))) t') { s with toks := k }) : wpAny (model prog w) A (call (.builtin "str.join") [.str x t, .ref D]) Q E s :=
  SC.join (N.isList hD) rfl hj h
end
theorem strValues_push (l : List (Str × Tok)) (x : Str) (t : Tok) : (strValues l).toArray.push (.str x t) = (strValues (l ++ [(x, t)])).toArray := by simp [strValues]
theorem r_reverse {prog : Program} {w : World} {A : Around} {E : Value → Shared → Prop} {s : Shared} {h₀ : Heap} {L D : Addr} {m : Str → Option Value} {news news' : List (Addr × Obj)} {its : Array Value} {l : List (Str × Tok)} {n : Nat} {Q : Value → Shared → Prop}
    (F : Fr h₀ L s.heap m) (N : News h₀ L s.heap news) (U : Upd D (W.listOf its n) (W.listOf (strValues l.reverse).toArray n) news news') (e : its = (strValues l).toArray) (z : l.length ≤ sizeLine)
    (h : ∀ h', Fr h₀ L h' m → News h₀ L h' news' → Q .none { s with heap := h' }) : wpAny (model prog w) A (call (.builtin "list.reverse") [.ref D]) Q E s := by
  subst e
  refine kl_reverse F N ?_ U ?_ h
  · simp [strValues]
  · simpa [strValues] using z
theorem r_pow {prog : Program} {w : World} {A : Around} {E : Value → Shared → Prop} {s : Shared} {b : Int} {t u : Tok} {Q : Value → Shared → Prop} (k : Nat) (e : b = (k : Int)) (hk : k < 300) (h : Q (.int (10 ^ k) s.toks) { s with toks := s.toks + 1 }) :
    wpAny (model prog w) A (binaryOp .Pow (.int 10 t) (.int b u)) Q E s := by
  subst e
  refine pow_int_small (a := 10) (n := (k : Int)) (by omega) (by omega) (by decide) ?_
  rw [Int.toNat_natCast]
  exact h
theorem sub_eq {X Y Z : List (Addr × Obj)} (h : ∀ p ∈ X, p ∈ Z) (e : Y = X) : ∀ p ∈ Y, p ∈ Z := e ▸ h
theorem allNe_of_lt {news : List (Addr × Obj)} {l : Addr} (h : ∀ p ∈ news, p.1 < l) : ∀ p ∈ news, p.1 ≠ l := fun p hp => Nat.ne_of_lt (h p hp)
local macro_rules | `(tactic| k_all) => `(tactic| first | with_reducible assumption | exact allNe_of_lt (by with_reducible assumption))
theorem lines_4 : True := by
  k_with "binaryOp Pow int int" => ((k_here; (first | refine r_pow 18 rfl (by decide) ?_ | refine r_pow 6 rfl (by decide) ?_); k_whole))
  k_with "call builtin:divmod" => ((k_here; (with_reducible show wpAny _ _ (call (Value.builtin _) [Value.int _ _, Value.int _ _]) _ _ _); refine' r_divmod (by k_asm) (by k_asm) (by first | decide | omega) (by first | exact sm_of (by decide) | walk_at "SM") ?_; k_whole; intro D' h' t1' t2' tk' F' N' l1; (try k_lt l1)))
  k_with "call type:str" => ((k_here; refine' r_str (by walk_at "SM") ?_; k_whole))
  k_with "call builtin:list.reverse" => ((k_here; (with_reducible show wpAny _ _ (call (Value.builtin _) [Value.ref _]) _ _ _); refine' r_reverse (by k_asm) (by k_asm) (by k_upd) (by first | with_reducible rfl | exact strValues_push _ _ _) (by first | with_reducible assumption | (simp only [List.length_append, List.length_cons, List.length_nil]; with_reducible assumption)) ?_; k_whole; intro h' F' N'))
  k_with "call builtin:str.join" => ((k_here; (with_reducible show wpAny _ _ (call (Value.builtin _) [Value.str _ _, Value.ref _]) _ _ _); refine' r_join (by k_asm) (by k_mem) (by first | with_reducible assumption | (apply_assumption)) ?_; k_whole; intro t' k'))
  exact trivial
noncomputable def strI (n : Int) : Str := Str.ofString (toString n)
noncomputable def padz (n : Int) : Str := Txt.rjustF (strI n) 18 48
noncomputable def wparts (n : Int) : List Str := if 10 ^ 18 ≤ n then padz (n.fmod (10 ^ 18)) :: wparts (n.fdiv (10 ^ 18)) else [strI n]
termination_by n.toNat
decreasing_by
  rw [fdiv_eq (by decide)]
  omega
noncomputable def wtext (n : Int) : Str := Txt.join (Str.ofString "") (wparts n).reverse

theorem strI_len {n : Int} {k : Nat} (hk : 0 < k) (h : n.natAbs < 10 ^ k) : (strI n).length ≤ k + 1 := by
  unfold strI
  rw [PySem.ofString_length]
  exact int_text_length_le10 hk h
theorem rjustF_len {x : Str} {i : Int} {c : Nat} : (Txt.rjustF x i c).length = max x.length i.toNat := by
  unfold Txt.rjustF
  split
  · omega
  · simp only [Str.length, Builtin.Str.padded, Array.size_append, Array.size_replicate] at *
    omega
theorem padz_len {n : Int} (h0 : 0 ≤ n) (h : n < 10 ^ 18) : (padz n).length ≤ 19 := by
  unfold padz
  rw [rjustF_len]
  have := strI_len (n := n) (k := 18) (by decide) (by omega)
  omega
theorem wparts_len : ∀ (k : Nat) (n : Int), 0 ≤ n → n < (10 ^ 18) ^ (k + 1) → ((wparts n).map (·.length)).sum ≤ 19 * (k + 1) ∧ (wparts n).length ≤ k + 1 := by
  intro k
  induction k with
  | zero =>
    intro n h0 h
    have h : n < 10 ^ 18 := by simpa using h
    rw [wparts, if_neg (by omega)]
    have := strI_len (n := n) (k := 18) (by decide) (by omega)
    simp
    omega
  | succ k ih =>
    intro n h0 h
    rw [wparts]
    split
    · rename_i hn
      rw [fdiv_eq (by decide), fmod_eq (by decide)]
      have h1 : n / 10 ^ 18 < (10 ^ 18) ^ (k + 1) := by
        refine Int.ediv_lt_of_lt_mul (by decide) ?_
        rw [Int.pow_succ] at h
        exact h
      obtain ⟨a, b⟩ := ih (n / 10 ^ 18) (by omega) h1
      have := padz_len (n := n % 10 ^ 18) (by omega) (by omega)
      simp only [List.map_cons, List.sum_cons, List.length_cons]
      omega
    · have := strI_len (n := n) (k := 18) (by decide) (by omega)
      simp
      omega

set_option maxHeartbeats 4000000 in
theorem wt_gives (w : World) (news) (n : Int) (tn : Tok) (hn : 0 ≤ n) (hn' : n < 10 ^ 80) :
    Gives w 35 1 news [.int n tn] (fun v news' => (∃ t, v = .str (wtext n) t) ∧ news = news') := by
  unfold Gives
  intro loose mean mg mb dp un gd cn cs a ccd cl outer A₀ base h₀ L m s Q E hB hF hK hN hT hk hdp hun hret
  refine wpAny_call ?_
  (k_dflt cell_enter)
  have en : (if n < 0 then -n else n) = n := by split <;> omega
  k_steps
  unfold Paused
  rename Fr _ _ _ _ => F1
  rename News _ _ _ _ => N1
  rename (∀ p ∈ news, p.1 < _) => hlt
  rename_i lA _ _
  have hne := allNe_of_lt hlt
  refine' ksw_while (fun c : Int × Tok × List (Str × Tok) × Nat => (lA, W.listOf (strValues c.2.2.1).toArray c.2.2.2) :: news) (fun c => [("rest", .int c.1 c.2.1)]) (fun _ => True) ["part"]
    (fun c => 0 ≤ c.1 ∧ c.1 ≤ n ∧ c.2.2.1.map (·.1) ++ wparts c.1 = wparts n) (fun c => c.1.toNat) (_, _, [], 0) F1 N1 trivial ?wK ?wP ?wT
  case wK => kst_all
  case wP => dsimp only; rw [en]; exact ⟨hn, Int.le_refl _, by simp⟩
  case wT =>
    rintro ⟨r, rt, l, cn⟩ u h tk - ⟨hr0, hrn, hw⟩ F N
    clear F1 N1
    dsimp only at hr0 hrn hw F N
    have hw1 : 10 ^ 18 ≤ r → (l.map (·.1)) ++ padz (r.fmod (10 ^ 18)) :: wparts (r.fdiv (10 ^ 18)) = wparts n := by
      intro h; rw [← hw]; conv => rhs; rw [wparts, if_pos h]
    have hw2 : ¬ 10 ^ 18 ≤ r → (l.map (·.1)) ++ [strI r] = wparts n := by
      intro h; rw [← hw]; conv => rhs; rw [wparts, if_neg h]
    have hfm0 := Int.emod_nonneg r (b := 10 ^ 18) (by decide)
    have hfm1 := Int.emod_lt_of_pos r (b := 10 ^ 18) (by decide)
    have hfm : Sm (r.fmod (10 ^ 18)) := sm_of (by rw [fmod_eq (by decide)]; omega)
    have hsz : (strValues l).toArray.size ≤ sizeLine := by
      have h1 := congrArg List.length hw
      have h2 := (wparts_len 5 n hn (by omega)).2
      simp only [List.length_append, List.length_map] at h1
      simp only [strValues, List.size_toArray, List.length_map]
      rw [sizeLine_eq]; omega
    have hz2 : ¬ 10 ^ 18 ≤ r → l.length + 1 ≤ sizeLine := by
      intro h
      have h1 := congrArg List.length (hw2 h)
      have h2 := (wparts_len 5 n hn (by omega)).2
      simp only [List.length_append, List.length_map, List.length_cons, List.length_nil] at h1
      rw [sizeLine_eq]; omega
    have hw3 : ¬ 10 ^ 18 ≤ r → ∀ t, ((l ++ [(Str.ofString (toString r), t)]).reverse.map (fun p : Str × Tok => p.1)) = (wparts n).reverse := by
      intro h t
      rw [← hw2 h]; simp [strI]
    have hj : ∀ t, ¬ 10 ^ 18 ≤ r → JoinOk (Str.ofString "") ((l ++ [(Str.ofString (toString r), t)]).reverse.map (fun p : Str × Tok => p.1)) = true := by
      intro t h
      rw [hw3 h]
      obtain ⟨h1, h2⟩ := wparts_len 5 n hn (by omega)
      refine joinOk_of_weight ?_ (by decide +kernel)
      rw [List.map_reverse, List.sum_reverse, List.length_reverse]
      omega
    by_cases hc : 10 ^ 18 ≤ r
    · clear hw2 hz2 hw3 hj
      replace hw1 := hw1 hc
      k_steps
      refine' ksw_end (_, _, l ++ [(_, _)], _) ?eF ?eN ?eL trivial ?eK ?eR ?eP ?eM
      case eF => assumption
      case eN => assumption
      case eL =>
        refine sub_eq (fun p hp => List.mem_cons_of_mem _ hp) ?_
        dsimp only
        rw [← strValues_push]
      case eK => kst_all
      case eR => walk_at "SAME"
      case eP =>
        dsimp only
        have hq : r / 10 ^ 18 ≤ r := Int.ediv_le_self _ hr0
        refine ⟨by rw [fdiv_eq (by decide)]; omega, by rw [fdiv_eq (by decide)]; omega, ?_⟩
        rw [List.map_append, List.append_assoc]
        exact hw1
      case eM => dsimp only; rw [fdiv_eq (by decide)]; omega
    · clear hw1
      replace hw2 := hw2 hc
      replace hw3 := hw3 hc
      replace hz2 := hz2 hc
      replace hj := fun t => hj t hc
      k_steps
      exact hret _ news _ _ (by assumption) (cb_drop (by with_reducible assumption) fun p hp => List.mem_cons_of_mem _ hp) ⟨exS (by rw [hw3]; rfl), rfl⟩
theorem fresh_P04 : True := by
  w_top off
  exact trivial
/-- a number of the text: NA, or a pair -/
inductive Num where
  | na
  | pr (a b : Int)
/-- the ledger bears it at v -/
noncomputable def NumIn (news : List (Addr × Obj)) (v : Value) : Num → Prop
  | .na => v = .none
  | .pr a b => ∃ ad t1 t2, v = .ref ad ∧ (ad, tup [.int a t1, .int b t2]) ∈ news
noncomputable def optV : Option Str → Value → Prop
  | none, v => v = .none
  | some s, v => ∃ t, v = .str s t
noncomputable def specialT : Num → Option Str
  | .na => some (Str.ofString "NA")
  | .pr a b => if 0 < b then none else if a = 0 then some (Str.ofString "NaN") else if 0 < a then some (Str.ofString "Inf") else some (Str.ofString "-Inf")

set_option maxHeartbeats 4000000 in
theorem special_gives (w : World) (news) (v : Value) (x : Num) (hx : NumIn news v x) :
    Gives w 42 1 news [v] (fun r news' => optV (specialT x) r ∧ news = news') := by
  unfold Gives
  intro loose mean mg mb dp un gd cn cs a ccd cl outer A₀ base h₀ L m s Q E hB hF hK hN hT hk hdp hun hret
  cases x with
  | na =>
    cases hx
    refine wpAny_call ?_
    (k_dflt cell_enter)
    k_steps
    all_goals exact hret _ _ _ _ (by assumption) (by assumption) ⟨⟨_, rfl⟩, rfl⟩
  | pr p q =>
    obtain ⟨ad, t1, t2, rfl, hm⟩ := hx
    refine wpAny_call ?_
    (k_dflt cell_enter)
    k_steps
    all_goals exact hret _ _ _ _ (by assumption) (by assumption) ⟨by simp [specialT, optV, *], rfl⟩

theorem lines_5 : True := by
  k_with "ROOM" => (((try dsimp only [ktrTop, Around.deeper, Around.in1]); first | omega | decide))
  k_with "call ref" => ((k_here; k_dflt (refine' Gives.go (by k_asm) (by k_asm) (by k_asm) (by k_asm) (by k_asm) (by rfl) (nw_gives _ _ _ _ _ _ (by walk_at "SM") (by walk_at "SM") (by walk_at "SM")) (by walk_at "ROOM") (by walk_at "ROOM") ?_; intro v' n' h' tk' F' N' P'; obtain ⟨⟨t', hv'⟩, hn'⟩ := P'; subst hv' hn'; (try dsimp only); (try k_sweep))))
  k_with "SM" => (first | with_reducible assumption | (with_reducible show Sm _; exact sm_of (by omega)) | omega)
  exact trivial
theorem r_abs {prog : Program} {w : World} {A : Around} {E : Value → Shared → Prop} {s : Shared} {a : Int} {t : Tok} {Q : Value → Shared → Prop} (h : ∀ u tk, Q (.int a.natAbs u) { s with toks := tk }) :
    wpAny (model prog w) A (call (.builtin "abs") [.int a t]) Q E s := by
  refine call_abs_int fun u tk => ?_
  have e : (if a < 0 then -a else a) = (a.natAbs : Int) := by split <;> omega
  rw [e]
  exact h u tk
theorem lines_6 : True := by
  k_with "call builtin:abs" => ((k_here; refine r_abs ?_; k_whole; intro u' tk'))
  exact trivial
/-- |a / b| as a whole number of the given figures -/
noncomputable def scl (a b e digits : Int) : Int :=
  if 0 ≤ digits - 1 - e then nw (a.natAbs * 10 ^ (digits - 1 - e).toNat) b else nw a.natAbs (b * 10 ^ (0 - (digits - 1 - e)).toNat)
theorem p10_abs {k : Nat} (h : k ≤ 40) : ((10 : Int) ^ k).natAbs ≤ 10 ^ 40 := by
  rw [Int.natAbs_pow]; exact Nat.pow_le_pow_right (by decide) h
theorem mul_abs {a b : Int} (ha : a.natAbs < 10 ^ 40) (hb : b.natAbs ≤ 10 ^ 40) : (a * b).natAbs < 10 ^ 90 := by
  rw [Int.natAbs_mul]
  have := Nat.mul_le_mul (Nat.le_of_lt ha) hb
  omega
set_option maxHeartbeats 4000000 in
theorem scaled_gives (w : World) (news) (x : Addr) (p q e digits : Int) (tp tq te td : Tok) (hx : (x, tup [.int p tp, .int q tq]) ∈ news) (hq : 0 < q) (hp' : p.natAbs < 10 ^ 40) (hq' : q.natAbs < 10 ^ 40) (h1 : -40 ≤ digits - 1 - e) (h2 : digits - 1 - e ≤ 40) :
    Gives w 49 2 news [.ref x, .int e te, .int digits td] (fun v news' => (∃ t, v = .int (scl p q e digits) t) ∧ news = news') := by
  unfold Gives
  intro loose mean mg mb dp un gd cn cs a ccd cl outer A₀ base h₀ L m s Q E hB hF hK hN hT hk hdp hun hret
  refine wpAny_call ?_
  (k_dflt cell_enter)
  have hk1 : (digits - 1 - e).toNat ≤ 40 := by omega
  have hk2 : (0 - (digits - 1 - e)).toNat ≤ 40 := by omega
  have hs1 : Sm (10 ^ (digits - 1 - e).toNat) := sm_of (by have := p10_abs hk1; omega)
  have hs2 : Sm (10 ^ (0 - (digits - 1 - e)).toNat) := sm_of (by have := p10_abs hk2; omega)
  have hm1 : ((p.natAbs : Int) * 10 ^ (digits - 1 - e).toNat).natAbs < 10 ^ 90 := mul_abs (by omega) (p10_abs hk1)
  have hm2 : (q * 10 ^ (0 - (digits - 1 - e)).toNat).natAbs < 10 ^ 90 := mul_abs (by omega) (p10_abs hk2)
  have hm3 : 0 < q * 10 ^ (0 - (digits - 1 - e)).toNat := Int.mul_pos hq (p10_pos _)
  have hp2 : (p.natAbs : Int).natAbs < 10 ^ 90 := by omega
  have hq2 : q.natAbs < 10 ^ 90 := by omega
  k_steps
  · exact hret _ _ _ _ (by assumption) (by assumption) ⟨exI (by unfold scl; rw [if_pos (by assumption)]), rfl⟩
  · exact hret _ _ _ _ (by assumption) (by assumption) ⟨exI (by unfold scl; rw [if_neg (by assumption)]), rfl⟩
theorem fresh_P05 : True := by
  w_top off
  exact trivial
theorem p10_gt (k : Nat) : (k : Int) < 10 ^ k := by
  induction k with
  | zero => decide
  | succ k ih => rw [p10_succ]; have := p10_pos k; omega
theorem exp_up {n d : Int} (h : d ≤ n) : ∀ k : Nat, n < 10 * (d * 10 ^ k) → ∃ j : Nat, d * 10 ^ j ≤ n ∧ n < 10 * (d * 10 ^ j) := by
  intro k
  induction k with
  | zero => exact fun hk => ⟨0, by simpa using h, hk⟩
  | succ k ih =>
    intro hk
    by_cases hc : d * 10 ^ (k + 1) ≤ n
    · exact ⟨k + 1, hc, hk⟩
    · refine ih ?_
      rw [p10_succ, Int.mul_left_comm] at hc
      omega
theorem exp_down {n d : Int} (h : n < d) : ∀ k : Nat, d ≤ n * 10 ^ k → ∃ j : Nat, 0 < j ∧ d ≤ n * 10 ^ j ∧ n * 10 ^ j < 10 * d := by
  intro k
  induction k with
  | zero => intro hk; simp at hk; omega
  | succ k ih =>
    intro hk
    by_cases hc : d ≤ n * 10 ^ k
    · exact ih hc
    · refine ⟨k + 1, by omega, hk, ?_⟩
      rw [p10_succ, Int.mul_left_comm]
      omega
theorem isExp_ex {n d : Int} (hn : 0 < n) (hd : 0 < d) : ∃ e, IsExp n d e := by
  by_cases h : d ≤ n
  · have hb : n < 10 * (d * 10 ^ n.toNat) := by
      have h1 := p10_gt n.toNat
      have h2 : 1 * 10 ^ n.toNat ≤ d * 10 ^ n.toNat := Int.mul_le_mul_of_nonneg_right (by omega) (Int.le_of_lt (p10_pos _))
      omega
    obtain ⟨j, h1, h2⟩ := exp_up h _ hb
    exact ⟨j, fun _ => ⟨by simpa using h1, by simpa using h2⟩, fun h => by omega⟩
  · have hb : d ≤ n * 10 ^ d.toNat := by
      have h1 := p10_gt d.toNat
      have h2 : 1 * 10 ^ d.toNat ≤ n * 10 ^ d.toNat := Int.mul_le_mul_of_nonneg_right (by omega) (Int.le_of_lt (p10_pos _))
      omega
    obtain ⟨j, h0, h1, h2⟩ := exp_down (by omega) _ hb
    refine ⟨-(j : Int), fun h => by omega, fun _ => ?_⟩
    rw [Int.neg_neg, Int.toNat_natCast]
    exact ⟨h1, h2⟩
theorem expo_spec {n d : Int} (hn : 0 < n) (hd : 0 < d) : IsExp n d (expo n d) := by
  unfold expo
  rw [dif_pos (isExp_ex hn hd)]
  exact (isExp_ex hn hd).choose_spec
theorem p10_lt_of {j k : Nat} (h : (10 : Int) ^ j < 10 ^ k) : j < k := by
  by_cases hc : k ≤ j
  · have := mul_p10_le (a := 1) (by decide) hc
    omega
  · omega
theorem expo_bounds {n d : Int} (hn : 0 < n) (hd : 0 < d) (hn' : n < 10 ^ 24) (hd' : d < 10 ^ 8) : -9 < expo n d ∧ expo n d < 24 := by
  obtain ⟨h1, h2⟩ := expo_spec hn hd
  generalize expo n d = e at h1 h2
  constructor
  · by_cases h : 0 ≤ e
    · omega
    · have h3 := (h2 (by omega)).2
      have h4 : 1 * 10 ^ (-e).toNat ≤ n * 10 ^ (-e).toNat := Int.mul_le_mul_of_nonneg_right (by omega) (Int.le_of_lt (p10_pos _))
      have h5 := p10_lt_of (j := (-e).toNat) (k := 9) (by omega)
      omega
  · by_cases h : 0 ≤ e
    · have h3 := (h1 h).1
      have h4 : 1 * 10 ^ e.toNat ≤ d * 10 ^ e.toNat := Int.mul_le_mul_of_nonneg_right (by omega) (Int.le_of_lt (p10_pos _))
      have h5 := p10_lt_of (j := e.toNat) (k := 24) (by omega)
      omega
    · omega

/-- a fraction of the law's sizes -/
structure Frac (a b : Int) : Prop where
  pos : 0 < b
  num : a.natAbs < 10 ^ 24
  den : b < 10 ^ 8
noncomputable def sig (a b digits : Int) : Int × Str × Int :=
  if a = 0 then (0, Txt.mul (Str.ofString "0") digits, 0)
  else if 10 ^ digits.toNat ≤ scl a b (expo a.natAbs b) digits then (if 0 < a then 1 else -1, strI (scl a b (expo a.natAbs b + 1) digits), expo a.natAbs b + 1)
  else (if 0 < a then 1 else -1, strI (scl a b (expo a.natAbs b) digits), expo a.natAbs b)

theorem nw_abs {n d : Int} (hd : 0 < d) : (nw n d).natAbs ≤ n.natAbs + 1 := by
  have := fdiv_abs (n := n) hd
  unfold nw
  split <;> omega
theorem scl_sm {a b e digits : Int} (hb : 0 < b) (ha : a.natAbs < 10 ^ 40) (hb' : b.natAbs < 10 ^ 40) (h1 : -40 ≤ digits - 1 - e) (h2 : digits - 1 - e ≤ 40) : (scl a b e digits).natAbs < 10 ^ 95 := by
  unfold scl
  split
  · have := nw_abs (n := (a.natAbs : Int) * 10 ^ (digits - 1 - e).toNat) hb
    have := mul_abs (a := (a.natAbs : Int)) (by omega) (p10_abs (k := (digits - 1 - e).toNat) (by omega))
    omega
  · have := nw_abs (n := (a.natAbs : Int)) (d := b * 10 ^ (0 - (digits - 1 - e)).toNat) (Int.mul_pos hb (p10_pos _))
    omega
theorem lines_7 : True := by
  k_with "call ref" => ((k_here; k_dflt (refine' Gives.go (by k_asm) (by k_asm) (by k_asm) (by k_asm) (by k_asm) (by rfl) (expo_gives _ _ _ _ _ _ _ (by k_mem) (by walk_at "SM") (by walk_at "SM") (by walk_at "SM") (by walk_at "SM")) (by walk_at "ROOM") (by walk_at "ROOM") ?_; intro v' n' h' tk' F' N' P'; obtain ⟨⟨t', hv'⟩, hn'⟩ := P'; subst hv' hn'; (try dsimp only); (try k_sweep))))
  k_with "call ref" => ((k_here; k_dflt (refine' Gives.go (by k_asm) (by k_asm) (by k_asm) (by k_asm) (by k_asm) (by rfl) (scaled_gives _ _ _ _ _ _ _ _ _ _ _ (by k_mem) (by walk_at "SM") (by walk_at "SM") (by walk_at "SM") (by walk_at "SM") (by walk_at "SM")) (by walk_at "ROOM") (by walk_at "ROOM") ?_; intro v' n' h' tk' F' N' P'; obtain ⟨⟨t', hv'⟩, hn'⟩ := P'; subst hv' hn'; (try dsimp only); (try k_sweep))))
  exact trivial
set_option maxHeartbeats 4000000 in
theorem sig_gives (w : World) (news) (x : Addr) (p q digits : Int) (tp tq td : Tok) (hx : (x, tup [.int p tp, .int q tq]) ∈ news) (hf : Frac p q) (h1 : 1 ≤ digits) (h2 : digits ≤ 15) :
    Gives w 56 3 news [.ref x, .int digits td] (fun v news' => ∃ D t1 t2 t3, v = .ref D ∧ (∀ p ∈ news, p.1 < D) ∧ (D, tup [.int (sig p q digits).1 t1, .str (sig p q digits).2.1 t2, .int (sig p q digits).2.2 t3]) :: news = news') := by
  unfold Gives
  intro loose mean mg mb dp un gd cn cs a ccd cl outer A₀ base h₀ L m s Q E hB hF hK hN hT hk hdp hun hret
  obtain ⟨hq, hp', hq'⟩ := hf
  by_cases hp0 : p = 0
  · refine wpAny_call ?_
    (k_dflt cell_enter)
    k_steps
    all_goals first
      | exact hret _ _ _ _ (by assumption) (by with_reducible assumption) ⟨_, _, _, _, rfl, by assumption, by simp only [sig, if_pos hp0]; rfl⟩
      | (exfalso; omega)
  · obtain ⟨hE1, hE2⟩ := expo_bounds (n := (p.natAbs : Int)) (d := q) (by omega) hq (by omega) hq'
    have hs1 : Sm (scl p q (expo p.natAbs q) digits) := sm_of (by have := scl_sm (a := p) (e := expo p.natAbs q) (digits := digits) hq (by omega) (by omega) (by omega) (by omega); omega)
    have hs2 : Sm (scl p q (expo p.natAbs q + 1) digits) := sm_of (by have := scl_sm (a := p) (e := expo p.natAbs q + 1) (digits := digits) hq (by omega) (by omega) (by omega) (by omega); omega)
    refine wpAny_call ?_
    (k_dflt cell_enter)
    k_steps
    all_goals first
      | (exfalso; omega)
      | (rename (10 ^ digits.toNat ≤ scl _ _ _ _) => hc1; rename (0 < p) => hc2; exact hret _ _ _ _ (by assumption) (by with_reducible assumption) ⟨_, _, _, _, rfl, by assumption, by simp only [sig, if_neg hp0, if_pos hc1, if_pos hc2]; rfl⟩)
      | (rename (10 ^ digits.toNat ≤ scl _ _ _ _) => hc1; rename (¬ 0 < p) => hc2; exact hret _ _ _ _ (by assumption) (by with_reducible assumption) ⟨_, _, _, _, rfl, by assumption, by simp only [sig, if_neg hp0, if_pos hc1, if_neg hc2]; rfl⟩)
      | (rename (¬ 10 ^ digits.toNat ≤ scl _ _ _ _) => hc1; rename (0 < p) => hc2; exact hret _ _ _ _ (by assumption) (by with_reducible assumption) ⟨_, _, _, _, rfl, by assumption, by simp only [sig, if_neg hp0, if_neg hc1, if_pos hc2]; rfl⟩)
      | (rename (¬ 10 ^ digits.toNat ≤ scl _ _ _ _) => hc1; rename (¬ 0 < p) => hc2; exact hret _ _ _ _ (by assumption) (by with_reducible assumption) ⟨_, _, _, _, rfl, by assumption, by simp only [sig, if_neg hp0, if_neg hc1, if_neg hc2]; rfl⟩)
theorem fresh_P06 : True := by
  w_top off
  exact trivial
theorem lines_8 : True := by
  k_with "exec While BoolOp" => ((k_here; refine Paused.intro ?_))
  k_with "exec While BoolOp cons" => ((k_here; refine Paused.intro ?_))
  k_with "exec While BoolOp cons nil" => ((k_here; refine Paused.intro ?_))
  exact trivial
/-- where a text's tail of noughts begins -/
noncomputable def tEnd (x : Str) : Nat → Nat
  | 0 => 0
  | k + 1 => if 1 ≤ k ∧ (Txt.item x (k : Int) == Str.ofString "0") = true then tEnd x k else k + 1
noncomputable def woTail (x : Str) : Str := Txt.slice x none (some (tEnd x x.length : Int))
set_option maxHeartbeats 4000000 in
theorem tail_gives (w : World) (news) (x : Str) (tx : Tok) (h0 : 0 < x.length) (h1 : x.length < 1000) :
    Gives w 63 1 news [.str x tx] (fun v news' => (∃ t, v = .str (woTail x) t) ∧ news = news') := by
  unfold Gives
  intro loose mean mg mb dp un gd cn cs a ccd cl outer A₀ base h₀ L m s Q E hB hF hK hN hT hk hdp hun hret
  refine wpAny_call ?_
  (k_dflt cell_enter)
  k_steps
  unfold Paused
  rename Fr _ _ _ _ => F1
  rename News _ _ _ _ => N1
  refine' ksw_while (fun _ => news) (fun c : Int × Tok => [("end", .int c.1 c.2)]) (fun _ => True) []
    (fun c => 1 ≤ c.1 ∧ c.1 ≤ x.length ∧ tEnd x c.1.toNat = tEnd x x.length) (fun c => c.1.toNat) (x.length, _) F1 N1 trivial ?wK ?wP ?wT
  case wK => kst_all
  case wP => exact ⟨by dsimp only; omega, Int.le_refl _, rfl⟩
  case wT =>
    rintro ⟨k, t1⟩ u h tk - ⟨hk1, hk2, hk3⟩ F N
    clear F1 N1
    dsimp only at hk1 hk2 hk3 F N
    have hst : tEnd x k.toNat = if 1 ≤ (k - 1).toNat ∧ (Txt.item x (k - 1) == Str.ofString "0") = true then tEnd x (k - 1).toNat else k.toNat := by
      rw [show k.toNat = (k - 1).toNat + 1 by omega, tEnd, show (((k - 1).toNat : Nat) : Int) = k - 1 by omega]
    k_steps
    · rename ((_ == _) = true) => hc
      refine' ksw_end (_, _) ?eF ?eN ?eL trivial ?eK ?eR ?eP ?eM
      case eF => assumption
      case eN => assumption
      case eL => exact fun p hp => hp
      case eK => kst_all
      case eR => walk_at "SAME"
      case eP =>
        dsimp only
        exact ⟨by omega, by omega, by rw [← hk3, hst, if_pos ⟨by omega, hc⟩]⟩
      case eM => dsimp only; omega
    · rename ((_ == _) = false) => hc
      exact hret _ _ _ _ (by assumption) (by with_reducible assumption) ⟨exS (by rw [woTail, ← hk3, hst, if_neg (by rw [hc]; simp), show ((k.toNat : Nat) : Int) = k by omega]), rfl⟩
    · exact hret _ _ _ _ (by assumption) (by with_reducible assumption) ⟨exS (by rw [woTail, ← hk3, hst, if_neg (by omega), show ((k.toNat : Nat) : Int) = k by omega]), rfl⟩
theorem fresh_P07 : True := by
  w_top off
  exact trivial
/-- the signs of a text are figures -/
noncomputable def Dig (x : Str) : Prop := ∀ c ∈ x.cps.toList, 48 ≤ c ∧ c ≤ 57
theorem strI_cps {n : Int} (h : 0 ≤ n) : (strI n).cps.toList = (Nat.toDigits 10 n.toNat).map Char.toNat := by
  unfold strI
  rw [Str.ofString_eq_toList]
  obtain ⟨k, rfl⟩ := Int.eq_ofNat_of_zero_le h
  show ((Nat.repr k).toList.map Char.toNat).toArray.toList = _
  rw [Nat.toList_repr]
  simp
theorem strI_dig {n : Int} (h : 0 ≤ n) : Dig (strI n) := by
  intro c hc
  rw [strI_cps h] at hc
  obtain ⟨d, hd, rfl⟩ := List.mem_map.mp hc
  have := Nat.isDigit_of_mem_toDigits (by decide) (by decide) hd
  simp only [Char.isDigit, Bool.and_eq_true, decide_eq_true_eq] at this
  exact this
theorem strI_length {n : Int} (h : 0 ≤ n) : (strI n).length = (Nat.toDigits 10 n.toNat).length := by
  have := congrArg List.length (strI_cps h)
  simpa [Str.length] using this
theorem strI_pos {n : Int} (h : 0 ≤ n) : 1 ≤ (strI n).length := by
  rw [strI_length h]; exact Nat.length_toDigits_pos
theorem strI_exact {n : Int} {k : Nat} (h1 : 10 ^ k ≤ n) (h2 : n < 10 ^ (k + 1)) : (strI n).length = k + 1 := by
  have h0 : 0 ≤ n := Int.le_trans (Int.le_of_lt (p10_pos k)) h1
  obtain ⟨m, rfl⟩ := Int.eq_ofNat_of_zero_le h0
  rw [strI_length h0]
  have a : m < 10 ^ (k + 1) := by exact_mod_cast h2
  have b : 10 ^ k ≤ m := by exact_mod_cast h1
  have u := (Nat.length_toDigits_le_iff (b := 10) (n := m) (k := k + 1) (by decide) (by omega)).mpr a
  have l : ¬ (Nat.toDigits 10 m).length ≤ k := by
    intro hl
    by_cases hk : k = 0
    · subst hk
      have := Nat.length_toDigits_pos (b := 10) (n := m)
      omega
    · have := (Nat.length_toDigits_le_iff (b := 10) (n := m) (k := k) (by decide) (by omega)).mp hl
      omega
  rw [Int.toNat_natCast]
  omega

theorem nw_bounds {n d : Int} (hd : 0 < d) : 2 * n - d ≤ 2 * (nw n d * d) ∧ 2 * (nw n d * d) ≤ 2 * n + d := by
  unfold nw
  rw [fdiv_eq hd]
  have h1 := Int.emod_nonneg n (Int.ne_of_gt hd)
  have h2 := Int.emod_lt_of_pos n hd
  have h3 : n - n / d * d = n % d := by rw [Int.emod_def, Int.mul_comm]
  generalize n / d = q at *
  rw [h3]
  split
  · rw [Int.add_mul, Int.one_mul]; omega
  · omega
theorem nw_ge {n d k : Int} (hd : 0 < d) (h : k * d ≤ n) : k ≤ nw n d := by
  have := Int.le_ediv_of_mul_le hd h
  unfold nw
  rw [fdiv_eq hd]
  split <;> omega
theorem nw_le {n d k : Int} (hd : 0 < d) (h : n < k * d) : nw n d ≤ k := by
  have := Int.ediv_lt_of_lt_mul hd h
  unfold nw
  rw [fdiv_eq hd]
  split <;> omega
/-- where a rounding runs over, a figure fewer gives just the power -/
theorem nw_over {N M N' M' K : Int} (hM : 0 < M) (hM' : 0 < M') (hx : (N = 10 * N' ∧ M' = M) ∨ (N' = N ∧ M' = 10 * M)) (hK : 0 < K) (hu : N < 10 * K * M) (hr : 10 * K ≤ nw N M) : nw N' M' = K := by
  have hb := (nw_bounds (n := N) hM).2
  have h1 : 10 * K * M ≤ nw N M * M := Int.mul_le_mul_of_nonneg_right hr (Int.le_of_lt hM)
  rw [Int.mul_assoc] at h1 hu
  have hKM : 0 < K * M := Int.mul_pos hK hM
  have hlt : N' < K * M' := by
    rcases hx with ⟨e1, e2⟩ | ⟨e1, e2⟩
    · subst e1 e2; omega
    · subst e1 e2; rw [Int.mul_left_comm]; omega
  have h2 := nw_le hM' hlt
  have hb' := (nw_bounds (n := N') hM').1
  have h3 : (K - 1) * M' < nw N' M' * M' := by
    rw [Int.sub_mul, Int.one_mul]
    rcases hx with ⟨e1, e2⟩ | ⟨e1, e2⟩
    · subst e1 e2; omega
    · subst e1 e2; rw [Int.mul_left_comm K 10 M] at *; omega
  have h4 := Int.lt_of_mul_lt_mul_right h3 (Int.le_of_lt hM')
  omega
theorem p10_add (j k : Nat) : (10 : Int) ^ (j + k) = 10 ^ j * 10 ^ k := Int.pow_add 10 j k
/-- what is rounded lies between the powers -/
theorem scl_frac {a b e D : Int} (hb : 0 < b) (h : IsExp (a.natAbs : Int) b e) (hD : 1 ≤ D) :
    ∃ N M, 0 < M ∧ scl a b e D = nw N M ∧ 10 ^ (D - 1).toNat * M ≤ N ∧ N < 10 * 10 ^ (D - 1).toNat * M ∧
      ∃ N' M', 0 < M' ∧ scl a b (e + 1) D = nw N' M' ∧ ((N = 10 * N' ∧ M' = M) ∨ (N' = N ∧ M' = 10 * M)) := by
  generalize hn : (a.natAbs : Int) = n at *
  unfold scl
  rw [hn]
  by_cases hs : 0 ≤ D - 1 - e
  · refine ⟨n * 10 ^ (D - 1 - e).toNat, b, hb, by rw [if_pos hs], ?_⟩
    have hlo : 10 ^ (D - 1).toNat * b ≤ n * 10 ^ (D - 1 - e).toNat ∧ n * 10 ^ (D - 1 - e).toNat < 10 * 10 ^ (D - 1).toNat * b := by
      by_cases he : 0 ≤ e
      · obtain ⟨h1, h2⟩ := h.1 he
        have e1 : (D - 1).toNat = e.toNat + (D - 1 - e).toNat := by omega
        have p := p10_pos (D - 1 - e).toNat
        have q1 := Int.mul_le_mul_of_nonneg_right h1 (Int.le_of_lt p)
        have q2 := Int.mul_lt_mul_of_pos_right h2 p
        rw [e1, p10_add]
        generalize (10 : Int) ^ (D - 1 - e).toNat = P at *
        generalize (10 : Int) ^ e.toNat = R at *
        have r1 : R * P * b = b * R * P := by rw [Int.mul_comm (R * P) b, Int.mul_assoc]
        have r2 : 10 * (R * P) * b = 10 * (b * R) * P := by rw [Int.mul_assoc, r1, ← Int.mul_assoc 10]
        rw [r1, r2]
        exact ⟨q1, q2⟩
      · obtain ⟨h1, h2⟩ := h.2 (by omega)
        have e1 : (D - 1 - e).toNat = (-e).toNat + (D - 1).toNat := by omega
        have p := p10_pos (D - 1).toNat
        have q1 := Int.mul_le_mul_of_nonneg_right h1 (Int.le_of_lt p)
        have q2 := Int.mul_lt_mul_of_pos_right h2 p
        rw [e1, p10_add]
        generalize (10 : Int) ^ (D - 1).toNat = P at *
        generalize (10 : Int) ^ (-e).toNat = R at *
        have r1 : P * b = b * P := Int.mul_comm _ _
        have r2 : n * (R * P) = n * R * P := by rw [Int.mul_assoc]
        have r3 : 10 * P * b = 10 * b * P := by rw [Int.mul_assoc, r1, ← Int.mul_assoc]
        rw [r1, r2, r3]
        exact ⟨q1, q2⟩
    refine ⟨hlo.1, hlo.2, ?_⟩
    by_cases hs' : 0 ≤ D - 1 - (e + 1)
    · refine ⟨n * 10 ^ (D - 1 - (e + 1)).toNat, b, hb, by rw [if_pos hs'], .inl ⟨?_, rfl⟩⟩
      rw [show (D - 1 - e).toNat = (D - 1 - (e + 1)).toNat + 1 by omega, p10_succ, Int.mul_left_comm]
    · refine ⟨n, b * 10 ^ (0 - (D - 1 - (e + 1))).toNat, Int.mul_pos hb (p10_pos _), by rw [if_neg hs'], .inr ⟨?_, ?_⟩⟩
      · rw [show (D - 1 - e).toNat = 0 by omega]; simp
      · rw [show (0 - (D - 1 - (e + 1))).toNat = 1 by omega, Int.pow_succ, Int.pow_zero, Int.one_mul, Int.mul_comm]
  · have he : 0 ≤ e := by omega
    obtain ⟨h1, h2⟩ := h.1 he
    refine ⟨n, b * 10 ^ (0 - (D - 1 - e)).toNat, Int.mul_pos hb (p10_pos _), by rw [if_neg hs], ?_⟩
    have e1 : e.toNat = (D - 1).toNat + (0 - (D - 1 - e)).toNat := by omega
    rw [e1, p10_add] at h1 h2
    rw [show 10 ^ (D - 1).toNat * (b * 10 ^ (0 - (D - 1 - e)).toNat) = b * (10 ^ (D - 1).toNat * 10 ^ (0 - (D - 1 - e)).toNat) by rw [Int.mul_left_comm]]
    rw [show 10 * 10 ^ (D - 1).toNat * (b * 10 ^ (0 - (D - 1 - e)).toNat) = 10 * (b * (10 ^ (D - 1).toNat * 10 ^ (0 - (D - 1 - e)).toNat)) by rw [Int.mul_assoc, Int.mul_left_comm (10 ^ _) b]]
    refine ⟨h1, h2, n, b * 10 ^ (0 - (D - 1 - (e + 1))).toNat, Int.mul_pos hb (p10_pos _), by rw [if_neg (by omega)], .inr ⟨rfl, ?_⟩⟩
    rw [show (0 - (D - 1 - (e + 1))).toNat = (0 - (D - 1 - e)).toNat + 1 by omega, p10_succ, Int.mul_left_comm]
theorem mul0_len {D : Int} (h : 0 ≤ D) : ((Txt.mul (Str.ofString "0") D).length : Int) = D := by
  rw [len_mul, if_neg (by simpa using h)]
  simp [show (Str.ofString "0").length = 1 from rfl]
theorem fold_dig (x : Array Nat) (hx : ∀ c ∈ x.toList, 48 ≤ c ∧ c ≤ 57) : ∀ (k : Nat) (acc : Array Nat), (∀ c ∈ acc.toList, 48 ≤ c ∧ c ≤ 57) → ∀ c ∈ ((List.replicate k x).foldl (· ++ ·) acc).toList, 48 ≤ c ∧ c ≤ 57 := by
  intro k
  induction k with
  | zero => exact fun acc h => h
  | succ k ih =>
    intro acc h
    rw [List.replicate_succ, List.foldl_cons]
    refine ih _ fun c hc => ?_
    rw [Array.toList_append] at hc
    exact (List.mem_append.mp hc).elim (h c) (hx c)
theorem mul0_dig (D : Int) : Dig (Txt.mul (Str.ofString "0") D) := by
  have h0 : Dig (Str.ofString "0") := by unfold Dig; decide
  unfold Txt.mul
  split
  · intro c hc; cases hc
  · split
    · exact h0
    · exact fold_dig _ h0 _ _ fun c hc => by cases hc
theorem sig_dig {a b D : Int} (hf : Frac a b) (hD : 1 ≤ D) : Dig (sig a b D).2.1 := by
  unfold sig
  split
  · exact mul0_dig D
  · rename_i ha
    have hn : 0 < (a.natAbs : Int) := by omega
    obtain ⟨N, M, hM, e1, lo, hi, N', M', hM', e2, hx⟩ := scl_frac hf.pos (expo_spec hn hf.pos) hD
    have hp := p10_pos (D - 1).toNat
    have ep : (10 : Int) ^ D.toNat = 10 * 10 ^ (D - 1).toNat := by rw [← p10_succ]; congr 1; omega
    split
    · rename_i hc
      rw [e1, ep] at hc
      dsimp only
      rw [e2, nw_over hM hM' hx hp hi hc]
      exact strI_dig (Int.le_of_lt hp)
    · rename_i hc
      dsimp only
      rw [e1]
      exact strI_dig (Int.le_trans (Int.le_of_lt hp) (nw_ge hM lo))
/-- the exponent stays small -/
theorem sig_exp {a b D : Int} (hf : Frac a b) : -9 < (sig a b D).2.2 ∧ (sig a b D).2.2 < 25 := by
  unfold sig
  split
  · exact ⟨by dsimp only; omega, by dsimp only; omega⟩
  · obtain ⟨h1, h2⟩ := expo_bounds (n := (a.natAbs : Int)) (d := b) (by omega) hf.pos (by have := hf.num; omega) hf.den
    split <;> exact ⟨by dsimp only; omega, by dsimp only; omega⟩
/-- the figures of significant: just as many as were asked for -/
theorem sig_len {a b D : Int} (hf : Frac a b) (hD : 1 ≤ D) : ((sig a b D).2.1.length : Int) = D := by
  unfold sig
  split
  · exact mul0_len (by omega)
  · rename_i ha
    have hn : 0 < (a.natAbs : Int) := by omega
    obtain ⟨N, M, hM, e1, lo, hi, N', M', hM', e2, hx⟩ := scl_frac hf.pos (expo_spec hn hf.pos) hD
    have hp := p10_pos (D - 1).toNat
    have ep : (10 : Int) ^ D.toNat = 10 * 10 ^ (D - 1).toNat := by rw [← p10_succ]; congr 1; omega
    split
    · rename_i hc
      rw [e1, ep] at hc
      dsimp only
      rw [e2, nw_over hM hM' hx hp hi hc, strI_exact (k := (D - 1).toNat) (Int.le_refl _) (by rw [p10_succ]; omega)]
      omega
    · rename_i hc
      rw [e1, ep] at hc
      dsimp only
      rw [e1, strI_exact (k := (D - 1).toNat) (nw_ge hM lo) (by rw [p10_succ]; omega)]
      omega
theorem fresh_P08 : True := by
  w_top off
  exact trivial
theorem lines_9 : True := by
  k_with "call ref" => ((k_here; k_dflt (refine' Gives.go (by k_asm) (by k_asm) (by k_asm) (by k_asm) (by k_asm) (by rfl) (sig_gives _ _ _ _ _ _ _ _ _ (by k_mem) (by walk_at "SM") (by walk_at "SM") (by walk_at "SM")) (by walk_at "ROOM") (by walk_at "ROOM") ?_; intro v' n' h' tk' F' N' P'; obtain ⟨D', t1', t2', t3', hv', l1, hn'⟩ := P'; subst hv' hn'; (try dsimp only); (try k_lt l1); (try k_sweep))))
  k_with "call ref" => ((k_here; k_dflt (refine' Gives.go (by k_asm) (by k_asm) (by k_asm) (by k_asm) (by k_asm) (by rfl) (wt_gives _ _ _ _ (by walk_at "SM") (by walk_at "SM")) (by walk_at "ROOM") (by walk_at "ROOM") ?_; intro v' n' h' tk' F' N' P'; obtain ⟨⟨t', hv'⟩, hn'⟩ := P'; subst hv' hn'; (try dsimp only); (try k_sweep))))
  exact trivial
theorem r_cat {prog : Program} {w : World} {A : Around} {E : Value → Shared → Prop} {s : Shared} {x y : Str} {t u : Tok} {Q : Value → Shared → Prop} (hz : x.length + y.length ≤ 100000) (h : ∀ t' k, Q (.str (x ++ y) t') { s with toks := k }) :
    wpAny (model prog w) A (binaryOp .Add (.str x t) (.str y u)) Q E s :=
  SBL.add (fun t' k _ => h t' k) (by rw [sizeLine_eq]; omega)
theorem lit_1 : (Str.ofString "-").length = 1 := rfl
theorem lit_2 : (Str.ofString "").length = 0 := rfl
theorem lit_3 : (Str.ofString ".").length = 1 := rfl
theorem lit_4 : (Str.ofString "e-").length = 2 := rfl
theorem lit_5 : (Str.ofString "e+").length = 2 := rfl
theorem lines_10 : True := by
  k_with "LEN" => (((simp only [Str.length_append, rjustF_len, lit_1, lit_2, lit_3, lit_4, lit_5]); omega))
  k_with "binaryOp Add str str" => ((refine Paused.intro ?_))
  k_with "binaryOp Add str str" => ((k_here; refine' r_cat (by walk_at "LEN") ?_; k_whole; intro t' k'))
  exact trivial
/-- the text with an exponent -/
noncomputable def sciT (a b D : Int) : Str :=
  (if 1 < D then (if (sig a b D).1 < 0 then Str.ofString "-" else Str.ofString "") ++ Txt.item (sig a b D).2.1 0 ++ Str.ofString "." ++ Txt.slice (sig a b D).2.1 (some 1) none
    else (if (sig a b D).1 < 0 then Str.ofString "-" else Str.ofString "") ++ Txt.item (sig a b D).2.1 0)
  ++ (if (sig a b D).2.2 < 0 then Str.ofString "e-" else Str.ofString "e+") ++ Txt.rjustF (strI ((sig a b D).2.2.natAbs : Int)) 2 48
set_option maxHeartbeats 4000000 in
theorem sci_gives (w : World) (news) (x : Addr) (p q digits : Int) (tp tq td : Tok) (hx : (x, tup [.int p tp, .int q tq]) ∈ news) (hf : Frac p q) (h1 : 1 ≤ digits) (h2 : digits ≤ 15) :
    Gives w 70 4 news [.ref x, .int digits td] (fun v news' => (∃ t, v = .str (sciT p q digits) t) ∧ news = news') := by
  unfold Gives
  intro loose mean mg mb dp un gd cn cs a ccd cl outer A₀ base h₀ L m s Q E hB hF hK hN hT hk hdp hun hret
  have hl := sig_len hf h1
  have hl1 : 0 < (sig p q digits).2.1.length := by omega
  have hl2 : (sig p q digits).2.1.length < 20 := by omega
  obtain ⟨he1, he2⟩ := sig_exp (D := digits) hf
  have hq3 : (strI (((sig p q digits).2.2.natAbs : Nat) : Int)).length ≤ 4 := strI_len (k := 3) (by decide) (by omega)
  unfold strI at hq3
  have hs : Sm ((sig p q digits).2.2.natAbs : Int) := sm_of (by omega)
  refine wpAny_call ?_
  (k_dflt cell_enter)
  k_steps
  all_goals
    refine hret _ news _ _ (by assumption) (cb_drop (by with_reducible assumption) fun p hp => List.mem_cons_of_mem _ hp) ⟨exS ?_, rfl⟩
    unfold sciT
    first
      | rw [if_pos (by with_reducible assumption : 1 < digits)]
      | rw [if_neg (by with_reducible assumption : ¬ 1 < digits)]
    first
      | rw [if_pos (by with_reducible assumption : (sig p q digits).1 < 0)]
      | rw [if_neg (by with_reducible assumption : ¬ (sig p q digits).1 < 0)]
    first
      | rw [if_pos (by with_reducible assumption : (sig p q digits).2.2 < 0)]
      | rw [if_neg (by with_reducible assumption : ¬ (sig p q digits).2.2 < 0)]
    rfl

/-- the text without an exponent -/
noncomputable def fixN (a b k : Int) : Int := nw (a.natAbs * 10 ^ k.toNat) b
noncomputable def fixP (a b k : Int) : Str := Txt.rjustF (wtext (fixN a b k)) (k + 1) 48
noncomputable def fixU (a b k : Int) : Str :=
  if 0 < k then Txt.slice (fixP a b k) none (some ((fixP a b k).length - k)) ++ Str.ofString "." ++ Txt.slice (fixP a b k) (some ((fixP a b k).length - k)) none else fixP a b k
noncomputable def fixT (a b k : Int) : Str := if a < 0 then Str.ofString "-" ++ fixU a b k else fixU a b k
theorem glue_all (P : Nat → Prop) : ∀ (l : List Str) (acc : Array Nat), (∀ c ∈ acc.toList, P c) → (∀ x ∈ l, ∀ c ∈ x.cps.toList, P c) →
    ∀ c ∈ (l.foldl (fun acc p => acc ++ (Str.ofString "").cps ++ p.cps) acc).toList, P c := by
  intro l
  induction l with
  | nil => exact fun acc h _ => h
  | cons x r ih =>
    intro acc h hl
    rw [List.foldl_cons]
    refine ih _ (fun c hc => ?_) fun y hy => hl y (List.mem_cons_of_mem _ hy)
    simp only [Array.toList_append, List.mem_append] at hc
    rcases hc with (hc | hc) | hc
    · exact h c hc
    · exact absurd hc (by simp [show (Str.ofString "").cps = #[] from rfl])
    · exact hl x List.mem_cons_self c hc
theorem glue_len : ∀ (l : List Str) (acc : Array Nat), (l.foldl (fun acc p => acc ++ (Str.ofString "").cps ++ p.cps) acc).size = acc.size + (l.map (·.length)).sum := by
  intro l
  induction l with
  | nil => intro acc; simp
  | cons x r ih =>
    intro acc
    rw [List.foldl_cons, ih, List.map_cons, List.sum_cons]
    simp only [Array.size_append, show (Str.ofString "").cps.size = 0 from rfl, Str.length]
    omega
theorem join_len (l : List Str) : (Txt.join (Str.ofString "") l).length = (l.map (·.length)).sum := by
  unfold Txt.join Builtin.Str.glued
  cases l with
  | nil => rfl
  | cons x r =>
    show (List.foldl _ x.cps r).size = _
    rw [glue_len]; rfl
theorem join_all (P : Nat → Prop) (l : List Str) (h : ∀ x ∈ l, ∀ c ∈ x.cps.toList, P c) : ∀ c ∈ (Txt.join (Str.ofString "") l).cps.toList, P c := by
  unfold Txt.join Builtin.Str.glued
  cases l with
  | nil => intro c hc; cases hc
  | cons x r => exact glue_all P r x.cps (h x List.mem_cons_self) fun y hy => h y (List.mem_cons_of_mem _ hy)
theorem rjustF_dig {x : Str} {i : Int} (h : Dig x) : Dig (Txt.rjustF x i 48) := by
  unfold Txt.rjustF
  split
  · exact h
  · intro c hc
    simp only [Builtin.Str.padded, Array.toList_append, Array.toList_replicate, List.mem_append, List.mem_replicate] at hc
    rcases hc with (⟨_, rfl⟩ | hc) | ⟨hc, _⟩
    · exact ⟨by decide, by decide⟩
    · exact h c hc
    · exact absurd rfl hc
theorem wparts_dig : ∀ (k : Nat) (n : Int), n.toNat ≤ k → 0 ≤ n → ∀ x ∈ wparts n, Dig x := by
  intro k
  induction k with
  | zero =>
    intro n hk h0 x hx
    rw [wparts, if_neg (by omega)] at hx
    rw [List.mem_singleton.mp hx]
    exact strI_dig h0
  | succ k ih =>
    intro n hk h0 x hx
    rw [wparts] at hx
    split at hx
    · rcases List.mem_cons.mp hx with rfl | hx
      · refine rjustF_dig (strI_dig ?_)
        rw [fmod_eq (by decide)]
        exact Int.emod_nonneg _ (by decide)
      · rw [fdiv_eq (by decide)] at hx
        exact ih _ (by omega) (by omega) x hx
    · rw [List.mem_singleton.mp hx]
      exact strI_dig h0
theorem wtext_dig {n : Int} (h : 0 ≤ n) : Dig (wtext n) :=
  join_all _ _ fun x hx => wparts_dig _ n (Nat.le_refl _) h x (List.mem_reverse.mp hx)
theorem wtext_len {n : Int} (h : 0 ≤ n) (h' : n < 10 ^ 80) : (wtext n).length ≤ 114 := by
  unfold wtext
  rw [join_len, List.map_reverse, List.sum_reverse]
  have := (wparts_len 5 n h (by omega)).1
  omega
theorem r_len {prog : Program} {w : World} {A : Around} {E : Value → Shared → Prop} {s : Shared} {x : Str} {t : Tok} {Q : Value → Shared → Prop} (hz : x.length ≤ 100000) (h : ∀ u tk, Q (.int x.length u) { s with toks := tk }) :
    wpAny (model prog w) A (call (.builtin "len") [.str x t]) Q E s := SBL.len (by omega) (h _ _)
theorem lines_11 : True := by
  k_with "LEN" => (first | omega | ((simp only [Str.length_append, lit_1, lit_2, lit_3, lit_4, lit_5]); omega))
  k_with "call builtin:len" => ((k_here; (with_reducible show wpAny _ _ (call (Value.builtin _) [Value.str _ _]) _ _ _); refine' r_len (by walk_at "LEN") ?_; k_whole; intro u' tk'))
  exact trivial
set_option maxHeartbeats 4000000 in
theorem fix_gives (w : World) (news) (x : Addr) (p q k : Int) (tp tq td : Tok) (hx : (x, tup [.int p tp, .int q tq]) ∈ news) (hf : Frac p q) (h1 : 0 ≤ k) (h2 : k ≤ 30) :
    Gives w 77 2 news [.ref x, .int k td] (fun v news' => (∃ t, v = .str (fixT p q k) t) ∧ news = news') := by
  unfold Gives
  intro loose mean mg mb dp un gd cn cs a ccd cl outer A₀ base h₀ L m s Q E hB hF hK hN hT hk hdp hun hret
  obtain ⟨hq, hp', hq'⟩ := hf
  have hk1 : k.toNat ≤ 40 := by omega
  have hs1 : Sm (10 ^ k.toNat) := sm_of (by have := p10_abs hk1; omega)
  have hs2 : Sm (p.natAbs : Int) := sm_of (by omega)
  have hm1 : ((p.natAbs : Int) * 10 ^ k.toNat).natAbs < 10 ^ 90 := mul_abs (by omega) (p10_abs hk1)
  have hn0 : 0 ≤ nw ((p.natAbs : Int) * 10 ^ k.toNat) q := nw_ge hq (by have := Int.mul_nonneg (a := (p.natAbs : Int)) (by omega) (Int.le_of_lt (p10_pos k.toNat)); omega)
  have hn1 : nw ((p.natAbs : Int) * 10 ^ k.toNat) q < 10 ^ 80 := by
    have h3 : (p.natAbs : Int) * 10 ^ k.toNat ≤ p.natAbs * 10 ^ 30 := mul_p10_le (by omega) (by omega)
    have h4 := nw_le (n := (p.natAbs : Int) * 10 ^ k.toNat) (d := q) (k := 10 ^ 60) hq (by omega)
    omega
  have hT := wtext_len hn0 hn1
  have hT1 : (Txt.rjustF (wtext (nw ((p.natAbs : Int) * 10 ^ k.toNat) q)) (k + 1) ((Str.ofString "0").cps.getD 0 0)).length ≤ 200 := by rw [rjustF_len]; omega
  have hT2 : (Txt.rjustF (wtext (nw ((p.natAbs : Int) * 10 ^ k.toNat) q)) (k + 1) ((Str.ofString "0").cps.getD 0 0)).length ≤ sizeLine := by rw [sizeLine_eq]; omega
  have hq2 : q.natAbs < 10 ^ 90 := by omega
  refine wpAny_call ?_
  (k_dflt cell_enter)
  k_steps
  all_goals
    refine hret _ news _ _ (by assumption) (by with_reducible assumption) ⟨exS ?_, rfl⟩
    unfold fixT fixU
    first
      | rw [if_pos (by with_reducible assumption : p < 0)]
      | rw [if_neg (by with_reducible assumption : ¬ p < 0)]
    first
      | rw [if_pos (by with_reducible assumption : 0 < k)]
      | rw [if_neg (by with_reducible assumption : ¬ 0 < k)]
    rfl
theorem fresh_P09 : True := by
  w_top off
  exact trivial
local macro_rules | `(tactic| k_mem) => `(tactic| first | with_reducible assumption | exact List.Mem.head _ | (refine List.mem_cons_of_mem _ ?_; k_mem))
theorem lines_12 : True := by
  k_with "call ref" => ((k_here; k_dflt (refine' Gives.go (by k_asm) (by k_asm) (by k_asm) (by k_asm) (by k_asm) (by rfl) (tail_gives _ _ _ _ (by walk_at "SM") (by walk_at "SM")) (by walk_at "ROOM") (by walk_at "ROOM") ?_; intro v' n' h' tk' F' N' P'; obtain ⟨⟨t', hv'⟩, hn'⟩ := P'; subst hv' hn'; (try dsimp only); (try k_sweep))))
  exact trivial
theorem woTail_le (x : Str) : (woTail x).length ≤ x.length := Txt.slice_le x _ _
theorem allLt_all {d : Addr} : ∀ {l : List (Addr × Obj)}, AllLt d l → ∀ p ∈ l, p.1 < d
  | [], _, _, h => by cases h
  | q :: r, h, p, hp => by
    rcases List.mem_cons.mp hp with rfl | hp
    · exact h.1
    · exact allLt_all h.2 p hp
theorem keep_head {p q : Addr × Obj} {news : List (Addr × Obj)} : ∀ x ∈ p :: news, x ∈ p :: q :: news := fun x hx => by
  rcases List.mem_cons.mp hx with rfl | hx
  · exact List.mem_cons_self
  · exact List.mem_cons_of_mem _ (List.mem_cons_of_mem _ hx)
noncomputable def pmax (a b : Int) : Int := if b > a then b else a
noncomputable def mE (a b D : Int) : Int := (sig a b D).2.2
noncomputable def mC (a b D : Int) : Int := (woTail (sig a b D).2.1).length
noncomputable def mL (a b D : Int) : Int := if a < 0 then pmax (mE a b D) 0 + 1 + 1 else pmax (mE a b D) 0 + 1
noncomputable def mP (a b D : Int) : Int := pmax (mC a b D - 1 - mE a b D) 0
set_option maxHeartbeats 4000000 in
theorem meas_gives (w : World) (news) (x : Addr) (p q digits : Int) (tp tq td : Tok) (hx : (x, tup [.int p tp, .int q tq]) ∈ news) (hf : Frac p q) (h1 : 1 ≤ digits) (h2 : digits ≤ 15) :
    Gives w 84 4 news [.ref x, .int digits td] (fun v news' => ∃ D t1 t2 t3 t4, v = .ref D ∧ (∀ p ∈ news, p.1 < D) ∧ (D, tup [.int (mC p q digits) t1, .int (mL p q digits) t2, .int (mP p q digits) t3, .int (mE p q digits) t4]) :: news = news') := by
  unfold Gives
  intro loose mean mg mb dp un gd cn cs a ccd cl outer A₀ base h₀ L m s Q E hB hF hK hN hT hk hdp hun hret
  have hl := sig_len hf h1
  have hl1 : 0 < (sig p q digits).2.1.length := by omega
  have hl2 : (sig p q digits).2.1.length < 1000 := by omega
  have hl3 := woTail_le (sig p q digits).2.1
  obtain ⟨he1, he2⟩ := sig_exp (D := digits) hf
  refine wpAny_call ?_
  (k_dflt cell_enter)
  k_steps
  all_goals
    rename (_ < _ ∧ AllLt _ _) => hlt
    exact hret _ _ _ _ (by assumption) (cb_drop (by with_reducible assumption) keep_head) ⟨_, _, _, _, _, rfl, allLt_all hlt.2, by
      unfold mL
      first
        | rw [if_pos (by with_reducible assumption : p < 0)]
        | rw [if_neg (by with_reducible assumption : ¬ p < 0)]
      rfl⟩
theorem fresh_P10 : True := by
  w_top off
  exact trivial
section
variable {prog : Program} {w : World} {A : Around} {E : Value → Shared → Prop} {s : Shared} {env : Env} {h₀ : Heap} {x : Str} {body : List Stmt} {Q : Flow → Shared → Prop}
theorem kst_is {ps : List (Str × Value)} {stored : List Str} {m₀ m₁ : Str → Option Value} (h1 : ∀ p ∈ ps, m₁ p.1 = some p.2) (h2 : ∀ z, (∀ p ∈ ps, z ≠ p.1) → stored.contains z = false → m₁ z = m₀ z) :
    m₁ = kstB (fun z => if stored.contains z then m₁ z else m₀ z) ps := by
  funext y
  refine (kstB_eq h1 fun hn => ?_).symm
  show (if stored.contains y = true then m₁ y else m₀ y) = m₁ y
  cases h3 : stored.contains y with
  | true => simp
  | false => simp only [Bool.false_eq_true, if_false]; exact (h2 y hn h3).symm
noncomputable def ForEnd {σ : Type} (h₀ : Heap) (L : Addr) (led : List (Addr × Obj)) (ps : σ → List (Str × Value)) (stored : List Str) (m₀ : Str → Option Value) (P : σ → Prop) (s₁ s₂ : Shared) : Prop :=
  ∃ (c' : σ) (h' : Heap) (tk : Nat) (m' : Str → Option Value) (news' : List (Addr × Obj)), s₂ = { s₁ with heap := h', toks := tk } ∧ Fr h₀ L h' m' ∧ News h₀ L h' news' ∧ (∀ p ∈ led, p ∈ news') ∧ (∀ p ∈ ps c', m' p.1 = some p.2) ∧ (∀ z, (∀ p ∈ ps c', z ≠ p.1) → stored.contains z = false → m' z = m₀ z) ∧ P c'
noncomputable def ForPost {σ : Type} (h₀ : Heap) (L : Addr) (led : List (Addr × Obj)) (ps : σ → List (Str × Value)) (stored : List Str) (m₀ : Str → Option Value) (P : σ → Prop) (s₁ : Shared) (Q : Flow → Shared → Prop) (f : Flow) (s₂ : Shared) : Prop :=
  match f with
  | .ret v => Q (.ret v) s₂
  | .brk => Q .next s₂
  | _ => ForEnd h₀ L led ps stored m₀ P s₁ s₂
theorem for_end {σ : Type} {L : Addr} {led news' : List (Addr × Obj)} {ps : σ → List (Str × Value)} {stored : List Str} {m₀ m' : Str → Option Value} {P : σ → Prop} {s₁ : Shared} {h' : Heap} {tk : Nat} (c' : σ)
    (F : Fr h₀ L h' m') (N : News h₀ L h' news') (hl : ∀ p ∈ led, p ∈ news') (hk : ∀ p ∈ ps c', m' p.1 = some p.2) (hr : ∀ z, (∀ p ∈ ps c', z ≠ p.1) → stored.contains z = false → m' z = m₀ z) (hp : P c') :
    ForEnd h₀ L led ps stored m₀ P s₁ { s₁ with heap := h', toks := tk } := ⟨c', h', tk, m', news', rfl, F, N, hl, hk, hr, hp⟩
/-- a for over a list of the ledger: what the turns keep and what they turn -/
theorem for_list {σ : Type} {l : Addr} {vs : List Value} {nn : Nat} {m₀ : Str → Option Value} {news : List (Addr × Obj)} (ps : σ → List (Str × Value)) (stored : List Str) (P : Nat → σ → Prop) (c₀ : σ)
    (hh : A.handled = none) (hl : (l, W.listOf vs.toArray nn) ∈ news) (F : Fr h₀ env.locals s.heap m₀) (N : News h₀ env.locals s.heap news)
    (hk : ∀ p ∈ ps c₀, m₀ p.1 = some p.2) (hp : P 0 c₀)
    (turn : ∀ i v c (u : Str → Option Value) h tk own, vs[i]? = some v → P i c → Fr h₀ env.locals h (fun y => if y = x then some v else kstB (fun z => if stored.contains z then u z else m₀ z) (ps c) y) → News h₀ env.locals h (news ++ own) →
      wpAny (model prog w) A (execs body env) (ForPost h₀ env.locals (news ++ own) ps stored m₀ (P (i + 1)) { s with heap := h, toks := tk } Q) E { s with heap := h, toks := tk })
    (done : ∀ c (u : Str → Option Value) h tk, P vs.length c → Fr h₀ env.locals h (kstB (fun z => if stored.contains z then u z else m₀ z) (ps c)) → News h₀ env.locals h news → Q .next { s with heap := h, toks := tk }) :
    wpAny (model prog w) A (pyIter (.ref l)) (fun it s₂ => LoopAtV prog w A h₀ env x body Q E it s₂) E s := by
  refine kdl_iter (fun i m₁ nx => nx = news ∧ ∃ c, (∀ p ∈ ps c, m₁ p.1 = some p.2) ∧ (∀ z, (∀ p ∈ ps c, z ≠ p.1) → stored.contains z = false → m₁ z = m₀ z) ∧ P i c) hh hl F N ⟨rfl, c₀, hk, fun _ _ _ => rfl, hp⟩ ?_ ?_
  · rintro i v m₁ nx h tk own hv hoff hin ⟨rfl, c, h1, h2, hp'⟩ F₁ N₁
    have em := kst_is h1 h2
    rw [em] at F₁
    refine wpAny_mono (turn i v c m₁ h tk own hv hp' F₁ N₁) (fun f s₂ q => ?_) fun _ _ e => e
    have fin : ForEnd h₀ env.locals (nx ++ own) ps stored m₀ (P (i + 1)) { s with heap := h, toks := tk } s₂ → InvEndG h₀ env.locals (fun m' nx' => (l, W.listOf vs.toArray nn) ∈ nx' ∧ nx' = nx ∧ ∃ c, (∀ p ∈ ps c, m' p.1 = some p.2) ∧ (∀ z, (∀ p ∈ ps c, z ≠ p.1) → stored.contains z = false → m' z = m₀ z) ∧ P (i + 1) c) own { s with heap := h, toks := tk } s₂ := by
      rintro ⟨c', h', tk', m', news', rfl, F', N', hl', hk', hr', hp'⟩
      exact ⟨h', tk', m', news', nx, rfl, F', N', fun p hp => hl' p (List.mem_append.mpr (.inl hp)), fun p hp => hl' p (List.mem_append.mpr (.inr hp)), hoff, hin, rfl, c', hk', hr', hp'⟩
    cases f with
    | ret v => exact q
    | brk => exact q
    | next => exact fin q
    | cont => exact fin q
  · rintro m₁ nx h tk ⟨rfl, c, h1, h2, hp'⟩ F₁ N₁
    have em := kst_is h1 h2
    rw [em] at F₁
    exact done c m₁ h tk hp' F₁ N₁
end
theorem lines_13 : True := by
  k_with "exec For Name Name cons nil" => ((k_here; (rename Fr _ _ _ _ => lF'); (with_unfolding_all refine' For_invVF lF' (by exact rfl) (by exact rfl) ?_)))
  k_with "pyIter ref" => ((k_here; refine Paused.intro ?_))
  k_with "ForEnd" => ((refine Paused.intro ?_))
  k_with "ForPost" => (dsimp only [ForPost])
  exact trivial
/-- the numbers of a row, at their values -/
inductive NumsIn (news : List (Addr × Obj)) : List Value → List Num → Prop
  | nil : NumsIn news [] []
  | cons {v : Value} {x : Num} {vs : List Value} {xs : List Num} : NumIn news v x → NumsIn news vs xs → NumsIn news (v :: vs) (x :: xs)
theorem NumsIn.length {news : List (Addr × Obj)} {vs : List Value} {xs : List Num} (h : NumsIn news vs xs) : vs.length = xs.length := by
  induction h with
  | nil => rfl
  | cons _ _ ih => simp [ih]
theorem NumsIn.get {news : List (Addr × Obj)} {vs : List Value} {xs : List Num} (h : NumsIn news vs xs) : ∀ {i : Nat} {v : Value}, vs[i]? = some v → ∃ x, xs[i]? = some x ∧ NumIn news v x := by
  induction h with
  | nil => intro i v h; cases h
  | cons hx _ ih =>
    intro i v h
    cases i with
    | zero => cases h; exact ⟨_, rfl, hx⟩
    | succ i => exact ih h
theorem NumIn.mono {news news' : List (Addr × Obj)} {v : Value} {x : Num} (h : NumIn news v x) (hs : ∀ p ∈ news, p ∈ news') : NumIn news' v x := by
  cases x with
  | na => exact h
  | pr a b => obtain ⟨ad, t1, t2, e, hm⟩ := h; exact ⟨ad, t1, t2, e, hs _ hm⟩
theorem NumsIn.mono {news news' : List (Addr × Obj)} {vs : List Value} {xs : List Num} (h : NumsIn news vs xs) (hs : ∀ p ∈ news, p ∈ news') : NumsIn news' vs xs := by
  induction h with
  | nil => exact .nil
  | cons hx _ ih => exact .cons (hx.mono hs) ih
/-- a fraction's two numbers -/
noncomputable def Num.fracOk : Num → Prop
  | .na => False
  | .pr a b => Frac a b
theorem fresh_P11 : True := by
  w_top off
  exact trivial
theorem lines_14 : True := by
  k_with "call ref" => ((k_here; k_dflt (refine' Gives.go (by k_asm) (by k_asm) (by k_asm) (by k_asm) (by k_asm) (by rfl) (meas_gives _ _ _ _ _ _ _ _ _ (by k_mem) (by walk_at "SM") (by walk_at "SM") (by walk_at "SM")) (by walk_at "ROOM") (by walk_at "ROOM") ?_; intro v' n' h' tk' F' N' P'; obtain ⟨D', t1', t2', t3', t4', hv', l1, hn'⟩ := P'; subst hv' hn'; (try dsimp only); (try k_lt l1); (try k_sweep))))
  exact trivial
noncomputable def chStep (D : Int) (c : Int × Int × Int × Int) : Num → Int × Int × Int × Int
  | .na => c
  | .pr a b => (pmax c.1 (mC a b D), pmax c.2.1 (mL a b D), pmax c.2.2.1 (mP a b D), if a < 0 then 1 else c.2.2.2)
noncomputable def chAcc (D : Int) (xs : List Num) : Int × Int × Int × Int := xs.foldl (chStep D) (1, 1, 0, 0)
theorem chAcc_succ {D : Int} {xs : List Num} {i : Nat} {x : Num} (h : xs[i]? = some x) : chAcc D (xs.take (i + 1)) = chStep D (chAcc D (xs.take i)) x := by
  unfold chAcc
  rw [List.take_add_one, h, List.foldl_append]
  rfl
/-- is the row's form fixed, and its number -/
noncomputable def chFixed (D : Int) (xs : List Num) : Prop :=
  (chAcc D xs).2.1 + (if 0 < (chAcc D xs).2.2.1 then (chAcc D xs).2.2.1 + 1 else 0) ≤ (chAcc D xs).2.2.2 + (if 1 < (chAcc D xs).1 then (chAcc D xs).1 + 1 else 1) + 4 + 0
/-- the form's tuple -/
noncomputable def FormIs (D : Int) (xs : List Num) (k : Str) (n : Int) : Prop :=
  (chFixed D xs ∧ k = Str.ofString "fixed" ∧ n = (chAcc D xs).2.2.1) ∨ (¬ chFixed D xs ∧ k = Str.ofString "scientific" ∧ n = (chAcc D xs).1)
set_option maxHeartbeats 4000000 in
theorem chosen_gives (w : World) (news) (l : Addr) (vs : List Value) (nn : Nat) (xs : List Num) (digits : Int) (td : Tok) (hl : (l, W.listOf vs.toArray nn) ∈ news) (hxs : NumsIn news vs xs) (hf : ∀ x ∈ xs, x.fracOk) (h1 : 1 ≤ digits) (h2 : digits ≤ 15) :
    Gives w 91 5 news [.ref l, .int digits td] (fun v news' => ∃ D k n t1 t2, v = .ref D ∧ (∀ p ∈ news, p.1 < D) ∧ FormIs digits xs k n ∧ (D, tup [.str k t1, .int n t2]) :: news = news') := by
  unfold Gives
  intro loose mean mg mb dp un gd cn cs a ccd cl outer A₀ base h₀ L m s Q E hB hF hK hN hT hk hdp hun hret
  refine wpAny_call ?_
  (k_dflt cell_enter)
  k_steps
  unfold Paused
  rename Fr _ _ _ _ => F1
  rename News _ _ _ _ => N1
  refine' for_list (fun c : (Int × Int × Int × Int) × (Tok × Tok × Tok × Tok) => [("count", .int c.1.1 c.2.1), ("left", .int c.1.2.1 c.2.2.1), ("places", .int c.1.2.2.1 c.2.2.2.1), ("minus", .int c.1.2.2.2 c.2.2.2.2)]) ["x", "row"]
    (fun i c => c.1 = chAcc digits (xs.take i)) ((1, 1, 0, 0), (_, _, _, _)) rfl hl F1 N1 ?wK ?wP ?wT ?wD
  case wK => kst_all
  case wP => rfl
  case wT =>
    rintro i v ⟨⟨c1, c2, c3, c4⟩, t1, t2, t3, t4⟩ u h tk own hv hc F N
    clear F1 N1
    dsimp only at hc F N
    obtain ⟨x, hx, hin⟩ := hxs.get hv
    have hfx := hf x (List.mem_of_getElem? hx)
    cases x with
    | na => exact hfx.elim
    | pr p q =>
      obtain ⟨ad, t5, t6, rfl, hm⟩ := hin
      have hm' : (ad, tup [.int p t5, .int q t6]) ∈ news ++ own := List.mem_append.mpr (.inl hm)
      replace hfx : Frac p q := hfx
      obtain ⟨he1, he2⟩ := sig_exp (D := digits) hfx
      have he : (mE p q digits).natAbs < 100 := by unfold mE; omega
      k_steps
      all_goals
        unfold Paused
        refine' for_end ((_, _, _, _), (_, _, _, _)) ?eF ?eN ?eL ?eK ?eR ?eP
        case eF => assumption
        case eN => assumption
        case eL => exact fun p hp => List.mem_cons_of_mem _ hp
        case eK => kst_all
        case eR => walk_at "SAME"
        case eP =>
          dsimp only
          rw [chAcc_succ hx, ← hc]
          dsimp only [chStep]
          first
            | rw [if_pos (by with_reducible assumption : p < 0)]
            | rw [if_neg (by with_reducible assumption : ¬ p < 0)]
          rfl
  case wD =>
    rintro ⟨⟨c1, c2, c3, c4⟩, t1, t2, t3, t4⟩ u h tk hc F N
    dsimp only at hc F N
    clear F1 N1
    have hc' : chAcc digits xs = (c1, c2, c3, c4) := by rw [hc, hxs.length, List.take_of_length_le (Nat.le_refl _)]
    k_steps
    all_goals
      refine hret _ _ _ _ (by assumption) (by with_reducible assumption) ⟨_, _, _, _, _, rfl, by assumption, ?_, rfl⟩
      unfold FormIs chFixed
      rw [hc']
      dsimp only
      first
        | exact .inl ⟨by (repeat' split) <;> omega, rfl, rfl⟩
        | exact .inr ⟨by (repeat' split) <;> omega, rfl, rfl⟩
theorem fresh_P12 : True := by
  w_top off
  exact trivial
/-- a number of the law's sizes, or a special -/
noncomputable def Num.ok : Num → Prop
  | .na => True
  | .pr a b => 0 < b → Frac a b
/-- a form's two parts are of sizes that the texts bear -/
noncomputable def FormOk (k : Str) (n : Int) : Prop := (k = Str.ofString "fixed" ∧ 0 ≤ n ∧ n ≤ 30) ∨ (k = Str.ofString "scientific" ∧ 1 ≤ n ∧ n ≤ 15)
noncomputable def formT (k : Str) (n : Int) (x : Num) : Str :=
  match specialT x with
  | some s => s
  | none => match x with
    | .na => Str.ofString ""
    | .pr a b => if k = Str.ofString "fixed" then fixT a b n else sciT a b n
theorem Gives.mono {w : World} {f : Addr} {need : Nat} {news : List (Addr × Obj)} {vs : List Value} {P P' : Value → List (Addr × Obj) → Prop} (G : Gives w f need news vs P) (h : ∀ v n, P v n → P' v n) : Gives w f need news vs P' := by
  intro loose mean mg mb dp un gd cn cs a ccd cl outer A₀ base h₀ L m s Q E hB hF hK hN hT hk hdp hun hret
  exact G.use hB hF hK hN hT hk hdp hun fun v n' h' tk' F N p => hret v n' h' tk' F N (h v n' p)
theorem special_some (w : World) (news) (v : Value) (x : Num) (s : Str) (hx : NumIn news v x) (hs : specialT x = some s) : Gives w 42 1 news [v] (fun r news' => (∃ t, r = .str s t) ∧ news = news') :=
  (special_gives w news v x hx).mono fun r n p => by rw [hs] at p; exact p
theorem special_none (w : World) (news) (v : Value) (x : Num) (hx : NumIn news v x) (hs : specialT x = none) : Gives w 42 1 news [v] (fun r news' => r = .none ∧ news = news') :=
  (special_gives w news v x hx).mono fun r n p => by rw [hs] at p; exact p
theorem lines_15 : True := by
  k_with "call ref" => ((k_here; k_dflt (refine' Gives.go (by k_asm) (by k_asm) (by k_asm) (by k_asm) (by k_asm) (by rfl) (special_some _ _ _ _ _ (by with_reducible assumption) (by with_reducible assumption)) (by walk_at "ROOM") (by walk_at "ROOM") ?_; intro v' n' h' tk' F' N' P'; obtain ⟨⟨t', hv'⟩, hn'⟩ := P'; subst hv' hn'; (try dsimp only); (try k_sweep))))
  k_with "call ref" => ((k_here; k_dflt (refine' Gives.go (by k_asm) (by k_asm) (by k_asm) (by k_asm) (by k_asm) (by rfl) (special_none _ _ _ _ (by with_reducible assumption) (by with_reducible assumption)) (by walk_at "ROOM") (by walk_at "ROOM") ?_; intro v' n' h' tk' F' N' P'; obtain ⟨hv', hn'⟩ := P'; subst hv' hn'; (try dsimp only); (try k_sweep))))
  k_with "call ref" => ((k_here; k_dflt (refine' Gives.go (by k_asm) (by k_asm) (by k_asm) (by k_asm) (by k_asm) (by rfl) (sci_gives _ _ _ _ _ _ _ _ _ (by k_mem) (by walk_at "SM") (by walk_at "SM") (by walk_at "SM")) (by walk_at "ROOM") (by walk_at "ROOM") ?_; intro v' n' h' tk' F' N' P'; obtain ⟨⟨t', hv'⟩, hn'⟩ := P'; subst hv' hn'; (try dsimp only); (try k_sweep))))
  k_with "call ref" => ((k_here; k_dflt (refine' Gives.go (by k_asm) (by k_asm) (by k_asm) (by k_asm) (by k_asm) (by rfl) (fix_gives _ _ _ _ _ _ _ _ _ (by k_mem) (by walk_at "SM") (by walk_at "SM") (by walk_at "SM")) (by walk_at "ROOM") (by walk_at "ROOM") ?_; intro v' n' h' tk' F' N' P'; obtain ⟨⟨t', hv'⟩, hn'⟩ := P'; subst hv' hn'; (try dsimp only); (try k_sweep))))
  exact trivial
theorem sci_ne : Str.ofString "scientific" ≠ Str.ofString "fixed" := by decide
set_option maxHeartbeats 4000000 in
theorem formed_gives (w : World) (news) (v : Value) (x : Num) (f : Addr) (k : Str) (n : Int) (t1 t2 : Tok) (hx : NumIn news v x) (hf : (f, tup [.str k t1, .int n t2]) ∈ news) (hok : x.ok) (hfo : FormOk k n) :
    Gives w 98 5 news [v, .ref f] (fun r news' => (∃ t, r = .str (formT k n x) t) ∧ news = news') := by
  unfold Gives
  intro loose mean mg mb dp un gd cn cs a ccd cl outer A₀ base h₀ L m s Q E hB hF hK hN hT hk hdp hun hret
  cases hs : specialT x with
  | some sp =>
    have hS : formT k n x = sp := by unfold formT; rw [hs]
    refine wpAny_call ?_
    (k_dflt cell_enter)
    k_steps
    all_goals exact hret _ _ _ _ (by assumption) (by with_reducible assumption) ⟨exS hS.symm, rfl⟩
  | none =>
    cases x with
    | na => cases hs
    | pr p q =>
      have hq : 0 < q := by
        unfold specialT at hs
        dsimp only at hs
        by_cases h : 0 < q
        · exact h
        · rw [if_neg h] at hs; (repeat' split at hs) <;> cases hs
      have hx' := hx
      obtain ⟨ad, t3, t4, hv, hm⟩ := hx
      subst hv
      replace hok : Frac p q := hok hq
      rcases hfo with ⟨hk, hn0, hn1⟩ | ⟨hk, hn0, hn1⟩
      · subst hk
        have hS : formT (Str.ofString "fixed") n (.pr p q) = fixT p q n := by unfold formT; rw [hs]; dsimp only; rw [if_pos rfl]
        refine wpAny_call ?_
        (k_dflt cell_enter)
        k_steps
        all_goals exact hret _ _ _ _ (by assumption) (by with_reducible assumption) ⟨exS hS.symm, rfl⟩
      · subst hk
        have hS : formT (Str.ofString "scientific") n (.pr p q) = sciT p q n := by unfold formT; rw [hs]; dsimp only; rw [if_neg sci_ne]
        refine wpAny_call ?_
        (k_dflt cell_enter)
        k_steps
        all_goals exact hret _ _ _ _ (by assumption) (by with_reducible assumption) ⟨exS hS.symm, rfl⟩
theorem fresh_P13 : True := by
  w_top off
  exact trivial
section
variable {prog : Program} {w : World} {A : Around} {s : Shared} {h₀ : Heap} {L : Addr} {m : Str → Option Value} {env : Env}
theorem compEnd_mono {s₁ : Shared} {I C D : Addr} {oI oC oD : Obj} {S : List (Addr × Obj) → Prop} {rest rest' : Value → List (Addr × Obj) → Prop} {y : Value} {s₂ : Shared} (h : ∀ n, rest y n → rest' y n) :
    LCg.CompEnd h₀ L m s₁ I oI C oC D oD S rest y s₂ → LCg.CompEnd h₀ L m s₁ I oI C oC D oD S rest' y s₂ := by
  rintro ⟨h', tk, n', e, F, N, o, hS, r⟩
  exact ⟨h', tk, n', e, F, N, o, hS, h _ r⟩
/-- what a turn of a block stands on -/
structure TurnAt (h₀ : Heap) (L : Addr) (m : Str → Option Value) (x : Str) (v : Value) (I : Addr) (oI : Obj) (C : Addr) (oC : Obj) (D : Addr) (ys : List Value) (m₂ : Str → Option Value) (news : List (Addr × Obj)) (h : Heap) : Prop where
  ns : LCg.NsObj oC m₂
  var : m₂ x = some v
  F : Fr h₀ L h m
  N : News h₀ L h ((I, oI) :: (C, oC) :: (D, LCg.lst ys) :: news)
  off : LCg.Off3 I C D news
  ne1 : (@Ne Nat I C)
  ne2 : (@Ne Nat I D)
  ne3 : (@Ne Nat C D)
theorem comp_inv {elt : Expr} {x : Str} {scope : Scope} {cl : List (Str × Addr)} {S : List (Addr × Obj) → Prop} {P : Nat → Value → Prop} {Fin : List Value → List (Addr × Obj) → Prop} {n : Nat} (J : Nat → List Value → List (Addr × Obj) → Prop)
    (turn : ∀ i ys news v I oI C oC D m₂ h tk (E' : Value → Shared → Prop), i < n → J i ys news → P i v → TurnAt h₀ L m x v I oI C oC D ys m₂ news h →
      wpAny (model prog w) A (eval elt (compEnvC scope cl C env)) (LCg.CompEnd h₀ L m { s with heap := h, toks := tk } I oI C oC D (LCg.lst ys) S (fun y news' => J (i + 1) (ys ++ [y]) news')) E' { s with heap := h, toks := tk })
    (fin : ∀ ys news, J n ys news → Fin ys news) : ∀ k i ys news, i + k = n → J i ys news → LCg.CompRest prog w A h₀ L m env elt x scope cl s S P Fin k i ys news := by
  intro k
  induction k with
  | zero => exact fun i ys news e j => LCg.CompRest.zero (fin ys news (by have : i = n := e; exact this ▸ j))
  | succ k ih =>
    intro i ys news e j
    refine LCg.CompRest.succ fun v I oI C oC D m₂ h tk E' hP hC hx F N off ne => ?_
    exact wpAny_mono (turn i ys news v I oI C oC D m₂ h tk E' (by omega) j hP ⟨hC, hx, F, N, off, ne.1, ne.2.1, ne.2.2⟩) (fun y s₂ q => compEnd_mono (fun nw r => ih (i + 1) _ _ (by omega) r) q) fun _ _ e => e
theorem comp_invT {ct elt : Expr} {x : Str} {scope : Scope} {cl : List (Str × Addr)} {S : List (Addr × Obj) → Prop} {P : Nat → Value → Prop} {Fin : List Value → List (Addr × Obj) → Prop} {n : Nat} (J : Nat → List Value → List (Addr × Obj) → Prop)
    (turn : ∀ i ys news v I oI C oC D m₂ h tk (E' : Value → Shared → Prop), i < n → J i ys news → P i v → TurnAt h₀ L m x v I oI C oC D ys m₂ news h →
      wpAny (model prog w) A (isTrue ct (compEnvC scope cl C env) (eval ct (compEnvC scope cl C env))) (fun ok s' => if ok = true then
        wpAny (model prog w) A (eval elt (compEnvC scope cl C env)) (LCg.CompEnd h₀ L m { s with heap := h, toks := tk } I oI C oC D (LCg.lst ys) S (fun y news' => J (i + 1) (ys ++ [y]) news')) E' s'
        else LCg.CompEnd h₀ L m { s with heap := h, toks := tk } I oI C oC D (LCg.lst ys) S (fun _ news' => J (i + 1) ys news') Value.none s') E' { s with heap := h, toks := tk })
    (fin : ∀ ys news, J n ys news → Fin ys news) : ∀ k i ys news, i + k = n → J i ys news → LCt.CompRestT prog w A h₀ L m env ct elt x scope cl s S P Fin k i ys news := by
  intro k
  induction k with
  | zero => exact fun i ys news e j => LCt.CompRestT.zero (fin ys news (by have : i = n := e; exact this ▸ j))
  | succ k ih =>
    intro i ys news e j
    refine LCt.CompRestT.succ fun v I oI C oC D m₂ h tk E' hP hC hx F N off ne => ?_
    refine wpAny_mono (turn i ys news v I oI C oC D m₂ h tk E' (by omega) j hP ⟨hC, hx, F, N, off, ne.1, ne.2.1, ne.2.2⟩) (fun ok s₂ q => ?_) fun _ _ e => e
    cases ok with
    | true =>
      simp only [if_true] at q ⊢
      exact wpAny_mono q (fun y s₃ q => compEnd_mono (fun nw r => ih (i + 1) _ _ (by omega) r) q) fun _ _ e => e
    | false =>
      simp only [Bool.false_eq_true, if_false] at q ⊢
      exact compEnd_mono (fun nw r => ih (i + 1) _ _ (by omega) r) q
end
theorem off1_ne {D : Addr} : ∀ {l : List (Addr × Obj)}, LCg.Off1 D l → ∀ p ∈ l, p.1 ≠ D
  | [], _, _, h => nomatch h
  | _ :: _, x, p, h => by
    rcases List.mem_cons.mp h with rfl | h
    · exact x.1
    · exact off1_ne x.2 p h
/- a comprehension stops the walk ahead of its iterable's end -/
theorem lines_16 : True := by
  k_with "eval ListComp" => ((k_here; k_dflt (refine LCg.ListComp_U (F₀ := by k_asm) (by with_unfolding_all rfl) (by decide) (by rfl) (by decide) (by rfl) ?_)))
  k_with "eval ListComp" => ((k_here; lct_look; k_dflt (refine LCt.ListComp_T (F₀ := by k_asm) (by with_unfolding_all rfl) (by decide) (by rfl) (by decide) (by rfl) ?_)))
  k_with "exec Assign cons ListComp" => ((k_here; k_dflt (refine LCg.Assign_ListComp_U (F₀ := by k_asm) (by rfl) (by with_unfolding_all rfl) (by with_unfolding_all rfl) (by decide) (by rfl) (by decide) (by rfl) (by rfl) (by rfl) ?_)))
  k_with "exec Assign cons ListComp" => ((k_here; lct_look; k_dflt (refine LCt.Assign_ListComp_T (F₀ := by k_asm) (by rfl) (by with_unfolding_all rfl) (by with_unfolding_all rfl) (by decide) (by rfl) (by decide) (by rfl) (by rfl) (by rfl) ?_)))
  k_with "CompSrc" => ((refine Paused.intro ?_))
  k_with "CompSrcT" => ((refine Paused.intro ?_))
  k_with "CompEnd" => ((refine Paused.intro ?_))
  exact trivial

noncomputable def Num.frac : Num → Bool
  | .na => false
  | .pr _ b => decide (0 < b)
open Classical in
noncomputable def formOf (D : Int) (xs : List Num) : Str × Int := if chFixed D xs then (Str.ofString "fixed", (chAcc D xs).2.2.1) else (Str.ofString "scientific", (chAcc D xs).1)
theorem formIs_eq {D : Int} {xs : List Num} {k : Str} {n : Int} (h : FormIs D xs k n) : k = (formOf D xs).1 ∧ n = (formOf D xs).2 := by
  unfold formOf
  rcases h with ⟨a, b, c⟩ | ⟨a, b, c⟩
  · rw [if_pos a]; exact ⟨b, c⟩
  · rw [if_neg a]; exact ⟨b, c⟩
noncomputable def commonT (D : Int) (xs : List Num) : List Str := xs.map (formT (formOf D (xs.filter Num.frac)).1 (formOf D (xs.filter Num.frac)).2)
/-- texts at their values -/
inductive TxtsAt : List Value → List Str → Prop
  | nil : TxtsAt [] []
  | cons {t : Tok} {x : Str} {vs : List Value} {xs : List Str} : TxtsAt vs xs → TxtsAt (.str x t :: vs) (x :: xs)
theorem TxtsAt.snoc {vs : List Value} {xs : List Str} (h : TxtsAt vs xs) (x : Str) (t : Tok) : TxtsAt (vs ++ [.str x t]) (xs ++ [x]) := by
  induction h with
  | nil => exact .cons .nil
  | cons _ ih => exact .cons ih
theorem NumsIn.snoc {news : List (Addr × Obj)} {vs : List Value} {xs : List Num} (h : NumsIn news vs xs) {v : Value} {x : Num} (hx : NumIn news v x) : NumsIn news (vs ++ [v]) (xs ++ [x]) := by
  induction h with
  | nil => exact .cons hx .nil
  | cons a _ ih => exact .cons a ih
theorem take_filter_pos {α : Type} {p : α → Bool} {xs : List α} {i : Nat} {x : α} (hx : xs[i]? = some x) (hp : p x = true) : (xs.take (i + 1)).filter p = (xs.take i).filter p ++ [x] := by
  rw [take_succ_filter p xs i x hx, if_pos hp]
theorem take_filter_neg {α : Type} {p : α → Bool} {xs : List α} {i : Nat} {x : α} (hx : xs[i]? = some x) (hp : p x = false) : (xs.take (i + 1)).filter p = (xs.take i).filter p := by
  rw [take_succ_filter p xs i x hx, hp]; simp
theorem allNe_up {news : List (Addr × Obj)} {l c : Addr} (h : ∀ p ∈ news, p.1 < l) (hc : l ≤ c) : ∀ p ∈ news, p.1 ≠ c := fun p hp => Nat.ne_of_lt (Nat.lt_of_lt_of_le (h p hp) hc)
local macro_rules | `(tactic| k_all) => `(tactic| first | with_reducible assumption | exact allNe_of_lt (by with_reducible assumption) | exact allNe_up (by with_reducible assumption) (Nat.le_add_right _ _))
theorem keep_head3 {p q r t : Addr × Obj} {news : List (Addr × Obj)} : ∀ x ∈ p :: news, x ∈ p :: q :: r :: t :: news := fun x hx => by
  rcases List.mem_cons.mp hx with rfl | hx
  · exact List.mem_cons_self
  · exact List.mem_cons_of_mem _ (List.mem_cons_of_mem _ (List.mem_cons_of_mem _ (List.mem_cons_of_mem _ hx)))
/- a part of the ledger lies in the whole -/
theorem lines_17 : True := by
  k_with "SUBL" => ((intro pz hpz; repeat (first | exact hpz | refine List.mem_cons_of_mem _ ?_)))
  k_with "call ref" => ((k_here; k_dflt (refine' Gives.go (by k_asm) (by k_asm) (by k_asm) (by k_asm) (by k_asm) (by rfl) (chosen_gives _ _ _ _ _ _ _ _ (by k_mem) (by first | with_reducible assumption | exact NumsIn.mono (by with_reducible assumption) (by walk_at "SUBL")) (by with_reducible assumption) (by walk_at "SM") (by walk_at "SM")) (by walk_at "ROOM") (by walk_at "ROOM") ?_; intro v' n' h' tk' F' N' P'; obtain ⟨D', k', m', t1', t2', hv', l1, hform', hn'⟩ := P'; subst hv' hn'; (try dsimp only); (try k_lt l1); (try k_sweep))))
  k_with "call ref" => ((k_here; k_dflt (refine' Gives.go (by k_asm) (by k_asm) (by k_asm) (by k_asm) (by k_asm) (by rfl) (formed_gives _ _ _ _ _ _ _ _ _ (by first | with_reducible assumption | exact NumIn.mono (by with_reducible assumption) (by walk_at "SUBL")) (by k_mem) (by with_reducible assumption) (by with_reducible assumption)) (by walk_at "ROOM") (by walk_at "ROOM") ?_; intro v' n' h' tk' F' N' P'; obtain ⟨⟨t', hv'⟩, hn'⟩ := P'; subst hv' hn'; (try dsimp only); (try k_sweep))))
  exact trivial
theorem pmax_le {a b c : Int} (h : a ≤ c) (h' : b ≤ c) : pmax a b ≤ c := by unfold pmax; split <;> assumption
theorem le_pmax_l (a b : Int) : a ≤ pmax a b := by unfold pmax; split <;> omega
theorem le_pmax_r (a b : Int) : b ≤ pmax a b := by unfold pmax; split <;> omega
theorem mC_bounds {p q D : Int} (hf : Frac p q) (h1 : 1 ≤ D) (h2 : D ≤ 15) : 0 ≤ mC p q D ∧ mC p q D ≤ 15 := by
  have hl := sig_len hf h1
  have := woTail_le (sig p q D).2.1
  unfold mC
  omega
theorem mP_bounds {p q D : Int} (hf : Frac p q) (h1 : 1 ≤ D) (h2 : D ≤ 15) : 0 ≤ mP p q D ∧ mP p q D ≤ 30 := by
  have hc := mC_bounds hf h1 h2
  have he := sig_exp (D := D) hf
  unfold mP mE
  exact ⟨le_pmax_r _ _, pmax_le (by omega) (by omega)⟩
theorem chFold_bounds {D : Int} (h1 : 1 ≤ D) (h2 : D ≤ 15) : ∀ (xs : List Num) (c : Int × Int × Int × Int), (∀ x ∈ xs, x.fracOk) → 1 ≤ c.1 → c.1 ≤ 15 → 0 ≤ c.2.2.1 → c.2.2.1 ≤ 30 →
    1 ≤ (xs.foldl (chStep D) c).1 ∧ (xs.foldl (chStep D) c).1 ≤ 15 ∧ 0 ≤ (xs.foldl (chStep D) c).2.2.1 ∧ (xs.foldl (chStep D) c).2.2.1 ≤ 30 := by
  intro xs
  induction xs with
  | nil => exact fun c _ a b c d => ⟨a, b, c, d⟩
  | cons x r ih =>
    intro c hx a1 a2 a3 a4
    rw [List.foldl_cons]
    cases x with
    | na => exact (hx _ List.mem_cons_self).elim
    | pr p q =>
      have hf : Frac p q := hx _ List.mem_cons_self
      have hc := mC_bounds hf h1 h2
      have hp := mP_bounds hf h1 h2
      obtain ⟨c1, c2, c3, c4⟩ := c
      dsimp only [chStep]
      dsimp only at a1 a2 a3 a4
      exact ih _ (fun y hy => hx y (List.mem_cons_of_mem _ hy)) (Int.le_trans a1 (le_pmax_l _ _)) (pmax_le a2 hc.2) (Int.le_trans a3 (le_pmax_l _ _)) (pmax_le a4 hp.2)
theorem chAcc_bounds {D : Int} {xs : List Num} (h1 : 1 ≤ D) (h2 : D ≤ 15) (hx : ∀ x ∈ xs, x.fracOk) : 1 ≤ (chAcc D xs).1 ∧ (chAcc D xs).1 ≤ 15 ∧ 0 ≤ (chAcc D xs).2.2.1 ∧ (chAcc D xs).2.2.1 ≤ 30 :=
  chFold_bounds h1 h2 xs (1, 1, 0, 0) hx (by decide) (by decide) (by decide) (by decide)
theorem formIs_ok {D : Int} {xs : List Num} {k : Str} {n : Int} (h : FormIs D xs k n) (h1 : 1 ≤ D) (h2 : D ≤ 15) (hx : ∀ x ∈ xs, x.fracOk) : FormOk k n := by
  obtain ⟨a, b, c, d⟩ := chAcc_bounds h1 h2 hx
  rcases h with ⟨_, e, f⟩ | ⟨_, e, f⟩
  · subst e f; exact .inl ⟨rfl, c, d⟩
  · subst e f; exact .inr ⟨rfl, a, b⟩
theorem frac_fracOk {xs : List Num} (hok : ∀ x ∈ xs, x.ok) : ∀ x ∈ xs.filter Num.frac, x.fracOk := by
  intro x hx
  obtain ⟨h1, h2⟩ := List.mem_filter.mp hx
  cases x with
  | na => cases h2
  | pr a b => exact hok _ h1 (by simpa [Num.frac] using h2)
set_option maxHeartbeats 4000000 in
theorem common_gives (w : World) (news) (l : Addr) (vs : List Value) (nn : Nat) (xs : List Num) (digits : Int) (td : Tok) (hl : (l, W.listOf vs.toArray nn) ∈ news) (hxs : NumsIn news vs xs) (hok : ∀ x ∈ xs, x.ok) (hz : xs.length ≤ 10000) (h1 : 1 ≤ digits) (h2 : digits ≤ 15) :
    Gives w 103 7 news [.ref l, .int digits td] (fun v news' => ∃ D ts c, v = .ref D ∧ (∀ p ∈ news, p.1 ≠ D) ∧ TxtsAt ts (commonT digits xs) ∧ (D, W.listOf ts.toArray c) :: news = news') := by
  unfold Gives
  intro loose mean mg mb dp un gd cn cs a ccd cl outer A₀ base h₀ L m s Q E hB hF hK hN hT hk hdp hun hret
  have hfr := frac_fracOk hok
  have hsz : vs.toArray.size ≤ sizeLine := by rw [List.size_toArray, hxs.length, sizeLine_eq]; omega
  have hev : vs.toArray.size = xs.length := by rw [List.size_toArray, hxs.length]
  refine wpAny_call ?_
  (k_dflt (refine' code_defC ?k1 ?k2 ?k3 ?k4 ?k5 ?kA ?kF ?kK ?k6 ?k7 ?k8 ?k9 ?kB ?kD ?_ ?c2 ?c3 ?c4; (case kA => exact rfl); (case kF => exact rfl); (case kK => assumption); (case k1 => k_asm); (case k2 => k_asm); (case k3 => k_asm); (case k4 => k_asm); (case k5 => k_asm); (case k6 => k_is); (case k7 => k_is); (case k8 => ktr_room); (case k9 => exact BindsTo.of_eq rfl); (case kB => exact rfl); (case kD => decide +kernel); (case c2 => exact rfl); (case c3 => exact rfl); (case c4 => exact rfl); k_whole; intro g' L' h' tk' cells' FG' F' N' Y' B' X' T' l1; (try k_lt l1); k_cells Y'; (try simp only [List.cons_append, List.nil_append] at N'); (try dsimp only); (try k_lift B'); (try k_fold)))
  k_steps
  unfold Paused
  rename Fr _ _ _ _ => F1
  rename News _ _ _ _ => N1
  refine LCt.CompSrcT.ledger (k := nn) rfl F1 N1 (by k_mem) hsz fun g => ?_
  refine' comp_invT (fun i ys nw => nw = ?zb ∧ NumsIn nw ys ((xs.take i).filter Num.frac)) ?wT ?wF _ _ _ _ (Nat.zero_add _) ⟨rfl, .nil⟩
  case wT =>
    rintro i ys nw v I oI C oC D' m₂ h tk E' hi ⟨rfl, hys⟩ hv T
    obtain ⟨hC, hx, F, N, off, ne1, ne2, ne3⟩ := T
    clear F1 N1
    obtain ⟨x, hxi, hin⟩ := hxs.get (i := i) (v := v) (by simpa using hv)
    cases x with
    | na =>
      cases hin
      k_steps
      unfold Paused
      exact LCg.CompEnd.intro (by assumption) (by with_reducible assumption) _ (fun p hp => hp) off (.inr ⟨_, by k_mem, rfl, _, rfl⟩) ⟨rfl, by rw [take_filter_neg hxi rfl]; exact hys⟩
    | pr p q =>
      have hin' := hin
      obtain ⟨ad, t5, t6, hv', hm⟩ := hin
      subst hv'
      k_steps
      all_goals unfold Paused
      · exact LCg.CompEnd.intro (by assumption) (by with_reducible assumption) _ (fun p hp => hp) off (.inr ⟨_, by k_mem, rfl, _, rfl⟩) ⟨rfl, by rw [take_filter_pos hxi (by simpa [Num.frac] using ‹0 < q›)]; exact hys.snoc (hin'.mono (by walk_at "SUBL"))⟩
      · exact LCg.CompEnd.intro (by assumption) (by with_reducible assumption) _ (fun p hp => hp) off (.inr ⟨_, by k_mem, rfl, _, rfl⟩) ⟨rfl, by rw [take_filter_neg hxi (by simpa [Num.frac] using ‹¬ 0 < q›)]; exact hys⟩
  case wF =>
    rintro ys nw ⟨rfl, hys⟩
    clear F1 N1
    rw [hev, List.take_length] at hys
    k_steps
    unfold Paused
    rename FormIs _ _ _ _ => hform
    have hfo := formIs_ok hform h1 h2 hfr
    rename Fr _ _ _ _ => F1
    rename News _ _ _ _ => N1
    refine LCg.CompSrc.ledger (k := nn) rfl F1 N1 (by k_mem) hsz fun g => ?_
    refine' comp_inv (fun i ys nw => nw = ?zc ∧ TxtsAt ys ((xs.take i).map (formT (formOf digits (xs.filter Num.frac)).1 (formOf digits (xs.filter Num.frac)).2))) ?wT ?wF _ _ _ _ (Nat.zero_add _) ⟨rfl, .nil⟩
    case wT =>
      rintro i ys' nw v I oI C oC D' m₂ h tk E' hi ⟨rfl, hys'⟩ hv T
      obtain ⟨hC, hx, F, N, off, ne1, ne2, ne3⟩ := T
      clear F1 N1
      obtain ⟨x, hxi, hin⟩ := hxs.get (i := i) (v := v) (by simpa using hv)
      have hox := hok x (List.mem_of_getElem? hxi)
      k_steps
      unfold Paused
      refine LCg.CompEnd.intro (by assumption) (by with_reducible assumption) _ (fun p hp => hp) off (.inr ⟨_, by k_mem, rfl, _, rfl⟩) ⟨rfl, ?_⟩
      obtain ⟨e1, e2⟩ := formIs_eq hform
      rw [List.take_add_one, hxi, List.map_append, ← e1, ← e2]
      rw [← e1, ← e2] at hys'
      exact hys'.snoc _ _
    case wF =>
      rintro ys' nw ⟨rfl, hys'⟩
      clear F1 N1
      rw [hev, List.take_length] at hys'
      k_steps
      rename (_ ∧ _ ∧ _ ∧ LCg.Off1 _ news) => ho
      exact hret _ _ _ _ (by assumption) (cb_drop (by with_reducible assumption) (keep_head3 (news := news))) ⟨_, _, _, rfl, off1_ne ho.2.2.2, hys', rfl⟩
theorem fresh_P14 : True := by
  w_top off
  exact trivial
theorem TxtsAt.one {vs : List Value} {x : Str} (h : TxtsAt vs [x]) : ∃ t, vs = [.str x t] := by
  cases h with
  | cons h => cases h; exact ⟨_, rfl⟩
theorem NumsIn.one {news : List (Addr × Obj)} {v : Value} {x : Num} (h : NumIn news v x) : NumsIn news [v] [x] := .cons h .nil
theorem lines_18 : True := by
  k_with "NUMS" => (first | with_reducible assumption | exact NumsIn.mono (by with_reducible assumption) (by walk_at "SUBL"))
  k_with "call ref" => ((k_here; k_dflt (refine' Gives.go (by k_asm) (by k_asm) (by k_asm) (by k_asm) (by k_asm) (by rfl) (common_gives _ _ _ _ _ _ _ _ (by k_mem) (by walk_at "NUMS") (by with_reducible assumption) (by first | with_reducible assumption | exact Nat.le_of_ble_eq_true rfl) (by walk_at "SM") (by walk_at "SM")) (by walk_at "ROOM") (by walk_at "ROOM") ?_; intro v' n' h' tk' F' N' P'; obtain ⟨D', ts', c', hv', lne', hts', hn'⟩ := P'; subst hv' hn'; (try dsimp only); (try k_sweep))))
  exact trivial
/-- a row of one -/
noncomputable def oneT (D : Int) (x : Num) : Str := formT (formOf D ([x].filter Num.frac)).1 (formOf D ([x].filter Num.frac)).2 x
theorem commonT_one (D : Int) (x : Num) : commonT D [x] = [oneT D x] := rfl
set_option maxHeartbeats 4000000 in
theorem number_gives (w : World) (news) (v : Value) (x : Num) (digits : Int) (td : Tok) (hx : NumIn news v x) (hok : x.ok) (h1 : 1 ≤ digits) (h2 : digits ≤ 15) :
    Gives w 111 8 news [v, .int digits td] (fun r news' => (∃ t, r = .str (oneT digits x) t) ∧ news = news') := by
  unfold Gives
  intro loose mean mg mb dp un gd cn cs a ccd cl outer A₀ base h₀ L m s Q E hB hF hK hN hT hk hdp hun hret
  have hone : NumsIn news [v] [x] := NumsIn.one hx
  have hok1 : ∀ y ∈ [x], y.ok := fun y hy => by rw [List.mem_singleton.mp hy]; exact hok
  refine wpAny_call ?_
  (k_dflt (refine' code_def ?k1 ?k2 ?k3 ?k4 ?k5 ?kA ?kF ?kK ?k6 ?k7 ?k8 ?k9 ?kB ?_ ?c2 ?c3 ?c4 ?c5; (case kA => exact rfl); (case kF => exact rfl); (case kK => assumption); (case k1 => k_asm); (case k2 => k_asm); (case k3 => k_asm); (case k4 => k_asm); (case k5 => k_asm); (case k6 => k_is); (case k7 => k_is); (case k8 => ktr_room); (case k9 => exact binds_K (by k_in) rfl (by k_is) rfl rfl rfl); (case c5 => decide); (case kB => exact locs rfl); (case c2 => exact rfl); (case c3 => exact rfl); (case c4 => exact rfl); k_whole; intro g' L' h' FG' F' N' B' X' T'; (try dsimp only); (try k_lift B'); (try k_fold)))
  k_steps
  rename TxtsAt _ _ => hts
  rw [commonT_one] at hts
  obtain ⟨t, e⟩ := hts.one
  subst e
  k_steps
  exact hret _ news _ _ (by assumption) (cb_drop (by with_reducible assumption) fun p hp => List.mem_cons_of_mem _ (List.mem_cons_of_mem _ hp)) ⟨⟨_, rfl⟩, rfl⟩
theorem fresh_P15 : True := by
  w_top off
  exact trivial
theorem updF_upd {d : Addr} {o o' : Obj} : ∀ {l : List (Addr × Obj)} {g : Obj → List (Addr × Obj)}, UpdF d o l g → Upd d o o' l (g o')
  | _, _, .head h => .head h
  | _, _, .tail h r => .tail h (updF_upd r)
theorem updF_self {d : Addr} {o : Obj} : ∀ {l : List (Addr × Obj)} {g : Obj → List (Addr × Obj)}, UpdF d o l g → g o = l
  | _, _, .head _ => rfl
  | _, _, .tail (p := p) _ r => congrArg (p :: ·) (updF_self r)
theorem updF_mem {d : Addr} {o : Obj} : ∀ {l : List (Addr × Obj)} {g : Obj → List (Addr × Obj)}, UpdF d o l g → (d, o) ∈ l
  | _, _, .head _ => List.mem_cons_self
  | _, _, .tail _ r => List.mem_cons_of_mem _ (updF_mem r)
theorem updF_next {d : Addr} {o o' : Obj} : ∀ {l : List (Addr × Obj)} {g : Obj → List (Addr × Obj)}, UpdF d o l g → UpdF d o' (g o') g
  | _, _, .head h => .head h
  | _, _, .tail h r => .tail h (updF_next r)
theorem updF_keep {d : Addr} {o o' : Obj} {p : Addr × Obj} : ∀ {l : List (Addr × Obj)} {g : Obj → List (Addr × Obj)}, UpdF d o l g → p ∈ l → p.1 ≠ d → p ∈ g o'
  | _, _, .head _, hp, hd => (List.mem_cons.mp hp).elim (fun e => absurd (by rw [e]) hd) fun h => List.mem_cons_of_mem _ h
  | _, _, .tail _ r, hp, hd => (List.mem_cons.mp hp).elim (fun e => e ▸ List.mem_cons_self) fun h => List.mem_cons_of_mem _ (updF_keep r h hd)
theorem r_pop0 {prog : Program} {w : World} {A : Around} {E : Value → Shared → Prop} {s : Shared} {h₀ : Heap} {L D : Addr} {m : Str → Option Value} {news : List (Addr × Obj)} {g : Obj → List (Addr × Obj)} {x : Value} {r : List Value} {n : Nat} {u : Tok} {Q : Value → Shared → Prop}
    (F : Fr h₀ L s.heap m) (N : News h₀ L s.heap news) (U : UpdF D (W.listOf (x :: r).toArray n) news g) (hz : r.length + 1 ≤ sizeLine)
    (h : ∀ h', Fr h₀ L h' m → News h₀ L h' (g (W.listOf r.toArray (n + 1))) → Q x { s with heap := h' }) : wpAny (model prog w) A (call (.builtin "list.pop") [.ref D, .int 0 u]) Q E s := by
  refine kl_popAt (k := 0) (p := []) (q := r) (y := x) F N rfl ?_ rfl (updF_upd U) hz h
  unfold seqIndex?
  simp
theorem r_eq_ints {prog : Program} {w : World} {A : Around} {E : Value → Shared → Prop} {s : Shared} {h₀ : Heap} {L a b : Addr} {news : List (Addr × Obj)} {xs ys : List Value} {ns ms : List Int} {n k : Nat} {Q : Value → Shared → Prop}
    (N : News h₀ L s.heap news) (ha : (a, W.listOf xs.toArray n) ∈ news) (hb : (b, W.listOf ys.toArray k) ∈ news) (hi : IntsAre xs ns) (hj : IntsAre ys ms) (hu : A.units + 64 < cLine) (h : Q (.bool (decide (ns = ms))) s) :
    wpAny (model prog w) A (compareOp .Eq (.ref a) (.ref b)) Q E s := ke_eq_ints (N.isList ha) (N.isList hb) hi hj hu h
theorem lines_19 : True := by
  k_with "compareOp Eq ref ref" => ((k_here; (with_reducible show wpAny _ _ (compareOp CmpOp.Eq (Value.ref _) (Value.ref _)) _ _ _); refine' r_eq_ints (by k_asm) (by k_mem) (by k_mem) (by with_reducible assumption) (by exact IntsAre.nil) (by walk_at "ROOM") ?_; k_whole))
  exact trivial
local macro_rules | `(tactic| news_mem) => `(tactic| k_mem)
local macro_rules | `(tactic| k_updF) => `(tactic| with_reducible assumption)
theorem lines_20 : True := by
  k_with "call builtin:list.pop" => ((k_here; (with_reducible show wpAny _ _ (call (Value.builtin _) [Value.ref _, Value.int _ _]) _ _ _); refine' r_pop0 (by k_asm) (by k_asm) (by k_updF) (by with_reducible assumption) ?_; k_whole; intro h' F' N'))
  exact trivial
noncomputable def seedV (ns : List Int) (limit : Int) : Int := (ns.headD 0).fmod limit
theorem seedV_bounds (ns : List Int) {limit : Int} (h : 0 < limit) : 0 ≤ seedV ns limit ∧ seedV ns limit < limit := by
  unfold seedV
  rw [fmod_eq h]
  exact ⟨Int.emod_nonneg _ (by omega), Int.emod_lt_of_pos _ h⟩
set_option maxHeartbeats 4000000 in
theorem seed_gives (w : World) (news g) (B I : Addr) (vs : List Value) (ns : List Int) (c nb : Nat) (t0 tl : Tok) (limit : Int) (hB : (B, W.listOf #[.ref I, .int 0 t0] nb) ∈ news) (U : UpdF I (W.listOf vs.toArray c) news g) (hi : IntsAre vs ns) (hz : ns.length ≤ 1000) (h0 : 0 < limit) :
    Gives w 118 10 news [.ref B, .int limit tl] (fun v news' => (∃ t, v = .int (seedV ns limit) t) ∧ ∃ vs' c', IntsAre vs' ns.tail ∧ g (W.listOf vs'.toArray c') = news') := by
  unfold Gives
  intro loose mean mg mb dp un gd cn cs a ccd cl outer A₀ base h₀ L m s Q E hB' hF hK hN hT hk hdp hun hret
  have hI := updF_mem U
  have hi0 := hi
  cases hi with
  | nil =>
    refine wpAny_call ?_
    (k_dflt cell_enter)
    k_steps
    exact hret _ _ _ _ (by assumption) (cb_drop (by with_reducible assumption) fun p hp => List.mem_cons_of_mem _ hp) ⟨⟨_, rfl⟩, [], c, .nil, updF_self U⟩
  | cons n t r =>
    rename_i vs1 ns1
    have hz1 : vs1.length + 1 ≤ sizeLine := by
      rw [r.length, sizeLine_eq]
      simp only [List.length_cons] at hz
      omega
    refine wpAny_call ?_
    (k_dflt cell_enter)
    k_steps
    · rename (decide (_ :: _ = []) = true) => hc
      simp at hc
    · rename (∀ p ∈ news, p.1 < _) => hlt
      have hlt1 := ltN (hlt _ hI)
      k_steps
      exact hret _ (g (W.listOf vs1.toArray (c + 1))) _ _ (by assumption) (cb_drop (by assumption) fun p hp => List.mem_cons_of_mem _ hp) ⟨⟨_, rfl⟩, vs1, _, r, rfl⟩
theorem fresh_P16 : True := by
  w_top off
  exact trivial
set_option maxHeartbeats 4000000 in
theorem low_gives (w : World) (news) (n d : Int) (tn td : Tok) (h0 : 0 ≤ n) (h1 : 0 < d) (hd' : d.natAbs < 10 ^ 40) :
    Gives w 125 1 news [.int n tn, .int d td] (fun v news' => ∃ D a b t1 t2, v = .ref D ∧ (∀ p ∈ news, p.1 < D) ∧ (0 ≤ a ∧ a ≤ n ∧ 0 < b ∧ b ≤ d) ∧ (D, tup [.int a t1, .int b t2]) :: news = news') := by
  unfold Gives
  intro loose mean mg mb dp un gd cn cs a ccd cl outer A₀ base h₀ L m s Q E hB hF hK hN hT hk hdp hun hret
  refine wpAny_call ?_
  (k_dflt cell_enter)
  k_steps
  unfold Paused
  rename Fr _ _ _ _ => F1
  rename News _ _ _ _ => N1
  refine' ksw_while (fun _ => news) (fun c : Int × Int × Tok × Tok => [("x", .int c.1 c.2.2.1), ("y", .int c.2.1 c.2.2.2)]) (fun _ => True) ["z"]
    (fun c => 0 ≤ c.1 ∧ 0 < c.2.1 ∧ ∀ g : Int, g ∣ c.1 → g ∣ c.2.1 → g ∣ d) (fun c => c.1.toNat) (n, d, _, _) F1 N1 trivial ?wK ?wP ?wT
  case wK => kst_all
  case wP => exact ⟨h0, h1, fun g _ h => h⟩
  case wT =>
    rintro ⟨x, y, t1, t2⟩ u h tk - ⟨hx, hy, hg⟩ F N
    clear F1 N1
    dsimp only at hx hy hg F N
    by_cases hc : 0 < x
    · have hne : x ≠ 0 := by omega
      k_steps
      refine' ksw_end (_, _, _, _) ?eF ?eN ?eL trivial ?eK ?eR ?eP ?eM
      case eF => assumption
      case eN => assumption
      case eL => exact fun p hp => hp
      case eK => kst_all
      case eR => walk_at "SAME"
      case eP =>
        dsimp only
        rw [fmod_eq hc]
        refine ⟨Int.emod_nonneg _ hne, hc, fun g a b => hg g b ?_⟩
        have e := Int.emod_add_mul_ediv y x
        rw [← e]
        exact Int.dvd_add a (Int.dvd_mul_of_dvd_left b)
      case eM =>
        dsimp only
        rw [fmod_eq hc]
        have := Int.emod_lt_of_pos y hc
        omega
    · have hx0 : x = 0 := by omega
      have hyd : y ∣ d := hg y (by rw [hx0]; exact Int.dvd_zero y) (Int.dvd_refl y)
      have hyl : y ≤ d := Int.le_of_dvd h1 hyd
      have hyn : y ≠ 0 := by omega
      have hys : Sm y := sm_of (by omega)
      k_steps
      rename (∀ p ∈ news, p.1 < _) => hlt
      refine hret _ _ _ _ (by assumption) (by with_reducible assumption) ⟨_, _, _, _, _, rfl, hlt, ?_, rfl⟩
      rw [fdiv_eq hy, fdiv_eq hy]
      refine ⟨Int.ediv_nonneg h0 (Int.le_of_lt hy), Int.ediv_le_self _ h0, ?_, Int.ediv_le_self _ (Int.le_of_lt h1)⟩
      have := Int.le_ediv_of_mul_le hy (a := 1) (b := d) (by omega)
      omega
theorem fresh_P17 : True := by
  w_top off
  exact trivial
local macro_rules | `(tactic| k_updF) => `(tactic| exact updF_next (by with_reducible assumption))
theorem neAll {l I : Addr} {o o₀ : Obj} {l₀ : List (Addr × Obj)} {g : Obj → List (Addr × Obj)} (h : ∀ p ∈ g o, p.1 < l) (U : UpdF I o₀ l₀ g) : l ≠ I := Nat.ne_of_gt (h _ (updF_mem (updF_next (o' := o) U)))
theorem neAll2 {l I : Addr} {o o₀ : Obj} {l₀ : List (Addr × Obj)} {g : Obj → List (Addr × Obj)} (h : AllLt l (g o)) (U : UpdF I o₀ l₀ g) : l ≠ I := neAll (allLt_all h) U
local macro_rules | `(tactic| k_ne) => `(tactic| first
  | exact neAll (by with_reducible assumption) (by with_reducible assumption)
  | exact neAll2 (And.right (by with_reducible assumption)) (by with_reducible assumption)
  | exact neAll2 (And.right (And.right (by with_reducible assumption))) (by with_reducible assumption)
  | exact neAll2 (And.right (And.right (And.right (by with_reducible assumption)))) (by with_reducible assumption))
theorem memG {p : Addr × Obj} {g : Obj → List (Addr × Obj)} {o : Obj} (h : ∀ o, p ∈ g o) : p ∈ g o := h o
local macro_rules | `(tactic| k_mem) => `(tactic| exact memG (by with_reducible assumption))
theorem lines_21 : True := by
  k_with "call ref" => ((k_here; k_dflt (refine' Gives.go (by k_asm) (by k_asm) (by k_asm) (by k_asm) (by k_asm) (by rfl) (seed_gives _ _ _ _ _ _ _ _ _ _ _ _ (by k_mem) (by k_updF) (by with_reducible assumption) (by walk_at "LENI") (by walk_at "SM")) (by walk_at "ROOM") (by walk_at "ROOM") ?_; intro v' n' h' tk' F' N' P'; obtain ⟨⟨t', hv'⟩, vs', c', hi', hn'⟩ := P'; subst hv' hn'; (try dsimp only); (try k_sweep))))
  k_with "call ref" => ((k_here; k_dflt (refine' Gives.go (by k_asm) (by k_asm) (by k_asm) (by k_asm) (by k_asm) (by rfl) (low_gives _ _ _ _ _ _ (by walk_at "SM") (by walk_at "SM") (by walk_at "SM")) (by walk_at "ROOM") (by walk_at "ROOM") ?_; intro v' n' h' tk' F' N' P'; obtain ⟨D', a', b', t1', t2', hv', l1, hab', hn'⟩ := P'; subst hv' hn'; (try dsimp only); (try k_lt l1); (try k_sweep))))
  k_with "LENI" => (first | with_reducible assumption | (simp only [List.length_tail]; omega))
  exact trivial
/-- a number as the law builds them -/
noncomputable def Num.law : Num → Prop
  | .na => True
  | .pr a b => Frac a b ∨ (b = 0 ∧ (a = 0 ∨ a = 1 ∨ a = -1))
theorem Num.law.ok {x : Num} (h : x.law) : x.ok := by
  cases x with
  | na => trivial
  | pr a b =>
    intro hb
    rcases h with h | ⟨h, _⟩
    · exact h
    · omega
theorem updF_adr {d : Addr} {o o' : Obj} {q : Addr × Obj} : ∀ {l : List (Addr × Obj)} {g : Obj → List (Addr × Obj)}, UpdF d o l g → q ∈ l → ∃ q' ∈ g o', q'.1 = q.1
  | _, _, .head _, hq => (List.mem_cons.mp hq).elim (fun e => ⟨_, List.mem_cons_self, by rw [e]⟩) fun h => ⟨q, List.mem_cons_of_mem _ h, rfl⟩
  | _, _, .tail _ r, hq => (List.mem_cons.mp hq).elim (fun e => ⟨q, e ▸ List.mem_cons_self, rfl⟩) fun h => let ⟨q', a, b⟩ := updF_adr r h; ⟨q', List.mem_cons_of_mem _ a, b⟩
theorem lnum_end {news : List (Addr × Obj)} {g : Obj → List (Addr × Obj)} {I D : Addr} {o₀ : Obj} {a b : Int} {ta tb : Tok} {vs' : List Value} {c' : Nat} {ns ns' : List Int} (U : UpdF I o₀ news g) (hD : ∃ o, AllLt D (g o)) (hl : (Num.pr a b).law) (hi : IntsAre vs' ns') (hn : ns'.length ≤ ns.length) :
    ∃ x ex vs'' c'' ns'', x.law ∧ NumIn ex (.ref D) x ∧ (∀ p ∈ ex, ∀ q ∈ news, q.1 < p.1) ∧ IntsAre vs'' ns'' ∧ ns''.length ≤ ns.length ∧ ex ++ g (W.listOf vs''.toArray c'') = ((D, tup [.int a ta, .int b tb]) :: g (W.listOf vs'.toArray c')) := by
  refine ⟨.pr a b, [(D, tup [.int a ta, .int b tb])], vs', c', ns', hl, ⟨D, ta, tb, rfl, List.mem_singleton.mpr rfl⟩, fun p hp q hq => ?_, hi, hn, rfl⟩
  rw [List.mem_singleton.mp hp]
  obtain ⟨o, hD⟩ := hD
  obtain ⟨q', h1, h2⟩ := updF_adr (o' := o) U hq
  exact h2 ▸ allLt_all hD q' h1
theorem lines_22 : True := by
  k_with "ALT" => (first
    | with_reducible assumption
    | exact And.right (by with_reducible assumption)
    | exact And.right (And.right (by with_reducible assumption))
    | exact And.right (And.right (And.right (by with_reducible assumption)))
    | exact allLt_of (by with_reducible assumption))
  exact trivial
theorem sub_head {p : Addr × Obj} {X Z : List (Addr × Obj)} (h : p ∈ Z) (hs : ∀ q ∈ X, q ∈ Z) : ∀ q ∈ p :: X, q ∈ Z := List.forall_mem_cons.mpr ⟨h, hs⟩
theorem lines_23 : True := by
  k_with "SUBH" => ((refine sub_head ?_ ?_; (repeat (first | exact List.mem_cons_self | refine List.mem_cons_of_mem _ ?_)); walk_at "SUBL"))
  k_with "TAILS" => (((simp only [List.length_tail]); omega))
  exact trivial
theorem dens_pos (k : Nat) (h : k < 7) : 0 < ([1, 2, 3, 8, 7, 1000, 10 ^ 6] : List Int).getD k 0 ∧ ([1, 2, 3, 8, 7, 1000, 10 ^ 6] : List Int).getD k 0 ≤ 10 ^ 6 := by
  rcases k with _ | _ | _ | _ | _ | _ | _ | k
  all_goals first | decide | omega
theorem big_num {a : Int} {k : Nat} (h0 : 0 ≤ a) (h1 : a < 2000) (hk : k < 20) : 0 ≤ a * 10 ^ k ∧ a * 10 ^ k < 10 ^ 23 := by
  refine ⟨Int.mul_nonneg h0 (Int.le_of_lt (p10_pos k)), ?_⟩
  have h2 : a * 10 ^ k ≤ a * 10 ^ 19 := mul_p10_le h0 (by omega)
  omega
set_option maxHeartbeats 4000000 in
theorem lnum_gives (w : World) (news g) (B I : Addr) (vs : List Value) (ns : List Int) (c nb : Nat) (t0 : Tok) (U : UpdF I (W.listOf vs.toArray c) news g) (hB : ∀ o, (B, W.listOf #[.ref I, .int 0 t0] nb) ∈ g o) (hi : IntsAre vs ns) (hz : ns.length ≤ 1000) :
    Gives w 132 12 news [.ref B] (fun v news' => ∃ x ex vs' c' ns', x.law ∧ NumIn ex v x ∧ (∀ p ∈ ex, ∀ q ∈ news, q.1 < p.1) ∧ IntsAre vs' ns' ∧ ns'.length ≤ ns.length ∧ ex ++ g (W.listOf vs'.toArray c') = news') := by
  unfold Gives
  intro loose mean mg mb dp un gd cn cs a ccd cl outer A₀ base h₀ L m s Q E hB' hF hK hN hT hk hdp hun hret
  have hBn : (B, W.listOf #[.ref I, .int 0 t0] nb) ∈ news := updF_self U ▸ hB (W.listOf vs.toArray c)
  obtain ⟨k0, k1⟩ := seedV_bounds ns (limit := 9) (by decide)
  obtain ⟨i0, i1⟩ := seedV_bounds ns.tail (limit := 4) (by decide)
  obtain ⟨n0, n1⟩ := seedV_bounds ns.tail (limit := 2000) (by decide)
  obtain ⟨d0, d1⟩ := seedV_bounds ns.tail.tail (limit := 7) (by decide)
  obtain ⟨e0, e1⟩ := seedV_bounds ns.tail.tail.tail (limit := 20) (by decide)
  obtain ⟨p0, p1⟩ := dens_pos (seedV ns.tail.tail 7).toNat (by omega)
  obtain ⟨q0, q1⟩ := big_num (k := (seedV ns.tail.tail.tail 20).toNat) n0 n1 (by omega)
  have e2 : (seedV ns.tail.tail.tail 20).toNat ≤ 40 := by omega
  have hs1 : Sm (10 ^ (seedV ns.tail.tail.tail 20).toNat) := sm_of (by have := p10_abs e2; omega)
  refine wpAny_call ?_
  (k_dflt cell_enter)
  k_steps
  · rename IntsAre _ ns.tail.tail => hi2
    have hlen : ns.tail.tail.length ≤ ns.length := by walk_at "TAILS"
    have hcase : seedV ns.tail 4 = 0 ∨ seedV ns.tail 4 = 1 ∨ seedV ns.tail 4 = 2 ∨ seedV ns.tail 4 = 3 := by omega
    rcases hcase with e | e | e | e <;> rw [e] <;> k_steps
    · exact hret _ _ _ _ (by assumption) (cb_drop (by with_reducible assumption) (by walk_at "SUBL")) ⟨.na, [], _, _, _, trivial, rfl, (fun _ h => nomatch h), hi2, hlen, rfl⟩
    · exact hret _ _ _ _ (by assumption) (cb_drop (by with_reducible assumption) (by walk_at "SUBH")) (lnum_end U ⟨_, by walk_at "ALT"⟩ (.inr ⟨rfl, .inl rfl⟩) hi2 hlen)
    · exact hret _ _ _ _ (by assumption) (cb_drop (by with_reducible assumption) (by walk_at "SUBH")) (lnum_end U ⟨_, by walk_at "ALT"⟩ (.inr ⟨rfl, .inr (.inl rfl)⟩) hi2 hlen)
    · exact hret _ _ _ _ (by assumption) (cb_drop (by with_reducible assumption) (by walk_at "SUBH")) (lnum_end U ⟨_, by walk_at "ALT"⟩ (.inr ⟨rfl, .inr (.inr rfl)⟩) hi2 hlen)
  all_goals
    rename (0 ≤ _ ∧ _ ∧ _ ∧ _) => hab
    obtain ⟨ha0, ha1, hb0, hb1⟩ := hab
    exact hret _ _ _ _ (by assumption) (cb_drop (by with_reducible assumption) (by walk_at "SUBH")) (lnum_end U ⟨_, by walk_at "ALT"⟩ (.inl ⟨hb0, by omega, by omega⟩) (by with_reducible assumption) (by walk_at "TAILS"))
theorem fresh_P18 : True := by
  w_top off
  exact trivial
theorem occ_some (x y : Str) (hi lim : Nat) (h1 : 1 ≤ lim) : ∀ (l : List Nat) (free : Nat), (∀ i ∈ l, free ≤ i) → (∃ i ∈ l, i + y.length ≤ hi ∧ Builtin.Str.subAt x y i = true) →
    (forIn l ((#[] : Array Nat), free) (StrLaws.occBody x y hi lim)).run.fst ≠ #[] := by
  intro l
  induction l with
  | nil => rintro _ _ ⟨i, h, _⟩; cases h
  | cons a l ih =>
    intro free hf hx
    rw [List.forIn_cons]
    unfold StrLaws.occBody
    by_cases hc : a + y.length ≤ hi ∧ Builtin.Str.subAt x y a = true
    · rw [if_pos ⟨⟨⟨by simp; omega, hf a List.mem_cons_self⟩, hc.1⟩, hc.2⟩]
      exact StrLaws.occ_grows x y hi lim l _ (by simp)
    · rw [if_neg fun h => hc ⟨h.1.2, h.2⟩]
      refine ih free (fun i hi' => hf i (List.mem_cons_of_mem _ hi')) ?_
      obtain ⟨i, h2, h3⟩ := hx
      rcases List.mem_cons.mp h2 with rfl | h2
      · exact (hc h3).elim
      · exact ⟨i, h2, h3⟩
theorem occ_ne {x : Str} {c i lim : Nat} (h1 : 1 ≤ lim) (h : x.cps.toList[i]? = some c) : Builtin.Str.occurrences x ⟨#[c]⟩ 0 x.length lim ≠ [] := by
  obtain ⟨a, b⟩ := (StrLaws.subAt_one x c i).mpr h
  rw [StrLaws.occ_eq]
  have := occ_some x ⟨#[c]⟩ x.length lim h1 (List.range' 0 (x.length + 1 - 0)) 0 (fun _ _ => Nat.zero_le _) ⟨i, by simp [List.mem_range']; omega, a, b⟩
  simpa using this
/-- what an occurrence list may hold when the sign stands at one place alone -/
theorem chain_one {x : Str} {c i : Nat} (hu : ∀ j, x.cps.toList[j]? = some c → j = i) : ∀ (cuts : List Nat) (a f : Nat), StrLaws.ChainTo x ⟨#[c]⟩ x.length a cuts f → cuts ≠ [] → cuts = [i]
  | [], _, _, _, h => (h rfl).elim
  | [k], _, _, h, _ => by rw [hu k ((StrLaws.subAt_one x c k).mp h.2.1)]
  | k :: k' :: r, _, _, h, _ => by
    have e1 := hu k ((StrLaws.subAt_one x c k).mp h.2.1)
    have e2 := hu k' ((StrLaws.subAt_one x c k').mp h.2.2.2.1)
    have e3 : k + 1 ≤ k' := h.2.2.1
    omega
theorem split_one {x : Str} {c : Nat} (h : c ∉ x.cps.toList) : Txt.split x ⟨#[c]⟩ = [x] := by
  unfold Txt.split
  split
  · rfl
  · rw [PySem.W.occ_nil_of_no]
    · rfl
    · intro i hi
      cases e : Builtin.Str.subAt x ⟨#[c]⟩ i with
      | false => rfl
      | true => exact (h (List.mem_of_getElem? ((StrLaws.subAt_one x c i).mp ⟨hi, e⟩))).elim
theorem split_else {x : Str} {c i : Nat} (h : x.cps.toList[i]? = some c) : Txt.split x ⟨#[c]⟩ = Builtin.Str.partsBetween x (Builtin.Str.occurrences x ⟨#[c]⟩ 0 x.length (x.length + 1)) 1 := by
  obtain ⟨a, b⟩ := (StrLaws.subAt_one x c i).mpr h
  unfold Txt.split
  have hk := PySem.W.kind_le x ⟨#[c]⟩ b
  have hl : (⟨#[c]⟩ : Str).length = 1 := rfl
  rw [if_neg (by simp; rw [hl] at a ⊢; omega), if_neg (by
    rw [List.isEmpty_iff]
    exact occ_ne (by omega) h), hl]
theorem split_two {x : Str} {c : Nat} {a b : List Nat} (hx : x.cps.toList = a ++ c :: b) (ha : c ∉ a) (hb : c ∉ b) : Txt.split x ⟨#[c]⟩ = [⟨a.toArray⟩, ⟨b.toArray⟩] := by
  have h : x.cps.toList[a.length]? = some c := by rw [hx]; simp
  have hn : x.length = a.length + 1 + b.length := by
    have := congrArg List.length hx
    simp at this
    show x.cps.size = _
    omega
  rw [split_else h]
  obtain ⟨f, hc⟩ := StrLaws.occ_chain x ⟨#[c]⟩ (x.length + 1)
  have hu : ∀ j, x.cps.toList[j]? = some c → j = a.length := by
    intro j hj
    rw [hx] at hj
    rcases Nat.lt_trichotomy j a.length with q | q | q
    · rw [List.getElem?_append_left q] at hj
      exact (ha (List.mem_of_getElem? hj)).elim
    · exact q
    · obtain ⟨k, rfl⟩ : ∃ k, j = a.length + 1 + k := ⟨j - a.length - 1, by omega⟩
      rw [List.getElem?_append_right (by omega), show a.length + 1 + k - a.length = k + 1 by omega, List.getElem?_cons_succ] at hj
      exact (hb (List.mem_of_getElem? hj)).elim
  rw [chain_one hu _ 0 f hc (occ_ne (by omega) h), StrLaws.partsBetween_eq]
  show [Builtin.Str.strSub x 0 a.length, Builtin.Str.strSub x (a.length + 1) x.length] = _
  congr 1
  · apply Str.ext'
    apply Array.toList_inj.mp
    rw [StrLaws.strSub_toList, hx]
    simp
  · congr 1
    apply Str.ext'
    apply Array.toList_inj.mp
    rw [StrLaws.strSub_toList, hx, hn, show a ++ c :: b = (a ++ [c]) ++ b by simp, List.drop_left' (by simp)]
    simp
theorem len_parts (x : Str) (cuts : List Nat) (w : Nat) : (Builtin.Str.partsBetween x cuts w).length = cuts.length + 1 := by
  rw [StrLaws.partsBetween_eq]
  generalize 0 = a
  induction cuts generalizing a with
  | nil => rfl
  | cons c r ih => show (_ :: StrLaws.partsFrom x w (c + w) r).length = _; rw [List.length_cons, ih, List.length_cons]
theorem split_many {x : Str} {c : Nat} (h : c ∈ x.cps.toList) : ∃ A B r, Txt.split x ⟨#[c]⟩ = A :: B :: r := by
  obtain ⟨i, hi⟩ := List.mem_iff_getElem?.mp h
  rw [split_else hi]
  have hl := len_parts x (Builtin.Str.occurrences x ⟨#[c]⟩ 0 x.length (x.length + 1)) 1
  have hn := occ_ne (lim := x.length + 1) (by omega) hi
  cases hp : Builtin.Str.partsBetween x (Builtin.Str.occurrences x ⟨#[c]⟩ 0 x.length (x.length + 1)) 1 with
  | nil => rw [hp] at hl; simp at hl
  | cons A r =>
    cases r with
    | nil =>
      rw [hp] at hl
      simp only [List.length_cons, List.length_nil] at hl
      exact (hn (List.length_eq_zero_iff.mp (by omega))).elim
    | cons B r => exact ⟨A, B, r, rfl⟩
theorem split_ne (x y : Str) : ∃ A r, Txt.split x y = A :: r := by
  unfold Txt.split
  split
  · exact ⟨x, [], rfl⟩
  · split
    · exact ⟨x, [], rfl⟩
    · rw [StrLaws.partsBetween_eq]
      exact StrLaws.partsFrom_ne x y.length 0 _
/-- the figures behind the point -/
noncomputable def front (x : Str) : Str := (Txt.split x (Str.ofString "e")).headD x
noncomputable def figs (x : Str) : Int := if 46 ∈ (front x).cps.toList then (((Txt.split (front x) (Str.ofString ".")).tail.headD x).length : Int) else 0
theorem dot_is : Str.ofString "." = ⟨#[46]⟩ := rfl
theorem e_is : Str.ofString "e" = ⟨#[101]⟩ := rfl
section
variable {prog : Program} {w : World} {A : Around} {E : Value → Shared → Prop} {s : Shared} {h₀ : Heap} {L : Addr} {m : Str → Option Value} {news : List (Addr × Obj)} {x y F G : Str} {r : List Str} {t u : Tok} {Q : Value → Shared → Prop}
theorem r_split1 (hF : Fr h₀ L s.heap m) (hN : News h₀ L s.heap news) (hs : Txt.split x y = F :: r) (hy : (y.length == 0) = false) (hsz : x.length + 2 ≤ sizeLine)
    (h : ∀ D t l h' k, Fr h₀ L h' m → News h₀ L h' ((D, W.listOf (Value.str F t :: l).toArray 0) :: news) → (∀ p ∈ news, p.1 < D) → Q (.ref D) { s with heap := h', toks := k }) :
    wpAny (model prog w) A (call (.builtin "str.split") [.str x t, .str y u]) Q E s := by
  refine KSpl.split1 hF hN hy (fun D l h' k e _ F' N' l1 => ?_) hsz
  rw [hs] at e
  obtain ⟨t', l', rfl, _⟩ := KSpl.cons_of e
  exact h D t' (strValues l') h' k F' N' l1
theorem r_split2 (hF : Fr h₀ L s.heap m) (hN : News h₀ L s.heap news) (hs : Txt.split x y = F :: G :: r) (hy : (y.length == 0) = false) (hsz : x.length + 2 ≤ sizeLine)
    (h : ∀ D t u l h' k, Fr h₀ L h' m → News h₀ L h' ((D, W.listOf (Value.str F t :: Value.str G u :: l).toArray 0) :: news) → (∀ p ∈ news, p.1 < D) → Q (.ref D) { s with heap := h', toks := k }) :
    wpAny (model prog w) A (call (.builtin "str.split") [.str x t, .str y u]) Q E s := by
  refine KSpl.split1 hF hN hy (fun D l h' k e _ F' N' l1 => ?_) hsz
  rw [hs] at e
  obtain ⟨t', l', rfl, e'⟩ := KSpl.cons_of e
  obtain ⟨u', l'', rfl, _⟩ := KSpl.cons_of e'
  exact h D t' u' (strValues l'') h' k F' N' l1
end
theorem partsFrom_short (x : Str) (w : Nat) : ∀ (cuts : List Nat) (a : Nat), ∀ p ∈ StrLaws.partsFrom x w a cuts, p.length ≤ x.length
  | [], a, p, h => by
    rw [List.mem_singleton.mp h]
    simp only [Builtin.Str.strSub, Str.length, Array.size_extract]
    omega
  | c :: r, a, p, h => by
    rcases List.mem_cons.mp h with rfl | h
    · simp only [Builtin.Str.strSub, Str.length, Array.size_extract]
      omega
    · exact partsFrom_short x w r _ p h
theorem split_short {x y a : Str} (h : a ∈ Txt.split x y) : a.length ≤ x.length := by
  unfold Txt.split at h
  split at h
  · rw [List.mem_singleton.mp h]; exact Nat.le_refl _
  · split at h
    · rw [List.mem_singleton.mp h]; exact Nat.le_refl _
    · rw [StrLaws.partsBetween_eq] at h
      exact partsFrom_short x _ _ _ a h
theorem fresh_P19 : True := by
  w_top off
  exact trivial
theorem lines_24 : True := by
  k_with "call builtin:str.split" => ((k_here; (with_reducible show wpAny _ _ (call (Value.builtin _) [Value.str _ _, Value.str _ _]) _ _ _); refine' r_split1 (by k_asm) (by k_asm) (by with_reducible assumption) (by decide) (by with_reducible assumption) ?_; k_whole; intro D' t' l' h' k' F' N' l1; (try k_lt l1)))
  k_with "call builtin:str.split" => ((k_here; (with_reducible show wpAny _ _ (call (Value.builtin _) [Value.str _ _, Value.str _ _]) _ _ _); refine' r_split2 (by k_asm) (by k_asm) (by with_reducible assumption) (by decide) (by with_reducible assumption) ?_; k_whole; intro D' t' u' l' h' k' F' N' l1; (try k_lt l1)))
  exact trivial
section
variable {prog : Program} {w : World} {A : Around} {E : Value → Shared → Prop} {s : Shared} {x y : Str} {c : Nat} {t u : Tok} {Q : Value → Shared → Prop}
theorem r_in_yes (hy : y = ⟨#[c]⟩) (h : c ∈ x.cps.toList) (hQ : Q (.bool true) s) : wpAny (model prog w) A (compareOp .In (.str y t) (.str x u)) Q E s := by
  subst hy
  refine P.in_str ?_
  rw [StrLaws.found_one, decide_eq_true h]
  exact hQ
theorem r_in_no (hy : y = ⟨#[c]⟩) (h : ¬ c ∈ x.cps.toList) (hQ : Q (.bool false) s) : wpAny (model prog w) A (compareOp .In (.str y t) (.str x u)) Q E s := by
  subst hy
  refine P.in_str ?_
  rw [StrLaws.found_one, decide_eq_false h]
  exact hQ
theorem r_notin_yes (hy : y = ⟨#[c]⟩) (h : c ∈ x.cps.toList) (hQ : Q (.bool false) s) : wpAny (model prog w) A (compareOp .NotIn (.str y t) (.str x u)) Q E s := by
  subst hy
  refine P.notIn_str ?_
  rw [StrLaws.found_one, decide_eq_true h]
  exact hQ
theorem r_notin_no (hy : y = ⟨#[c]⟩) (h : ¬ c ∈ x.cps.toList) (hQ : Q (.bool true) s) : wpAny (model prog w) A (compareOp .NotIn (.str y t) (.str x u)) Q E s := by
  subst hy
  refine P.notIn_str ?_
  rw [StrLaws.found_one, decide_eq_false h]
  exact hQ
end
theorem lines_25 : True := by
  k_with "compareOp In str str" => ((k_here; first
    | (refine' r_in_yes (c := 46) (by exact dot_is) (by with_reducible assumption) ?_; k_whole)
    | (refine' r_in_no (c := 46) (by exact dot_is) (by with_reducible assumption) ?_; k_whole)
    | (refine' r_in_yes (c := 101) (by exact e_is) (by with_reducible assumption) ?_; k_whole)
    | (refine' r_in_no (c := 101) (by exact e_is) (by with_reducible assumption) ?_; k_whole)))
  k_with "compareOp NotIn str str" => ((k_here; first
    | (refine' r_notin_yes (c := 101) (by exact e_is) (by with_reducible assumption) ?_; k_whole)
    | (refine' r_notin_no (c := 101) (by exact e_is) (by with_reducible assumption) ?_; k_whole)))
  exact trivial
set_option maxHeartbeats 4000000 in
theorem fig_gives (w : World) (news) (x : Str) (tx : Tok) (hz : x.length ≤ 1000) :
    Gives w 139 1 news [.str x tx] (fun v news' => (∃ t, v = .int (figs x) t) ∧ news = news') := by
  unfold Gives
  intro loose mean mg mb dp un gd cn cs a ccd cl outer A₀ base h₀ L m s Q E hB hF hK hN hT hk hdp hun hret
  obtain ⟨F, r, he⟩ := split_ne x (Str.ofString "e")
  have hf : front x = F := by unfold front; rw [he]; rfl
  have hz1 : x.length + 2 ≤ sizeLine := by rw [sizeLine_eq]; omega
  have hz2 : F.length + 2 ≤ sizeLine := by
    have := split_short (x := x) (y := Str.ofString "e") (a := F) (by rw [he]; exact List.mem_cons_self)
    rw [sizeLine_eq]; omega
  by_cases hd : 46 ∈ F.cps.toList
  · obtain ⟨G, H, r2, hp⟩ := split_many hd
    replace hp : Txt.split F (Str.ofString ".") = G :: H :: r2 := hp
    have hz3 : H.length ≤ 1000 := by
      have := split_short (x := F) (y := Str.ofString ".") (a := H) (by rw [hp]; exact List.mem_cons_of_mem _ List.mem_cons_self)
      have := split_short (x := x) (y := Str.ofString "e") (a := F) (by rw [he]; exact List.mem_cons_self)
      omega
    have hv : figs x = H.length := by unfold figs; rw [hf, if_pos hd, hp]; rfl
    refine wpAny_call ?_
    (k_dflt cell_enter)
    k_steps
    exact hret _ news _ _ (by assumption) (cb_drop (by with_reducible assumption) fun p hp => List.mem_cons_of_mem _ (List.mem_cons_of_mem _ hp)) ⟨exI hv.symm, rfl⟩
  · have hv : figs x = 0 := by unfold figs; rw [hf, if_neg hd]
    refine wpAny_call ?_
    (k_dflt cell_enter)
    k_steps
    exact hret _ news _ _ (by assumption) (cb_drop (by with_reducible assumption) fun p hp => List.mem_cons_of_mem _ hp) ⟨exI hv.symm, rfl⟩
theorem fresh_P20 : True := by
  w_top off
  exact trivial
noncomputable def recOf {q : Program} {loose : List Str} {XP : (Str → Option Value) → Heap → Prop} {YP : World → Heap → Prop} {r : RowW} {d : DefRec} {kwd : List (Str × Expr)} {run : Value → List Value → Sem Value} {P : Prop}
    (_ : WalkO q loose XP YP r d kwd run → P) : DefRec := d
noncomputable abbrev lawRec : DefRec := recOf hd
noncomputable abbrev lawE (L fa : Addr) (cdv : Value) : Env := envOfC (Str.ofString "law") lawRec.scope L fa cdv
noncomputable abbrev lawA (dp un : Nat) (gd : Option (List Code)) (L fa : Addr) (cdv : Value) (outer : List Env) : Around := ktrTop dp un gd (Str.ofString "law") lawRec.scope L fa cdv (cellsFrom (L + 1) lawRec.scope.names []) outer
theorem nm0 {h₀ h : Heap} {L a : Addr} {o : Obj} {r : List (Addr × Obj)} (_ : News h₀ L h ((a, o) :: r)) : ∃ b, b = a := ⟨a, rfl⟩
theorem nm1 {h₀ h : Heap} {L a : Addr} {o : Obj} {p : Addr × Obj} {r : List (Addr × Obj)} (_ : News h₀ L h (p :: (a, o) :: r)) : ∃ b, b = a := ⟨a, rfl⟩
theorem nm2 {h₀ h : Heap} {L a : Addr} {o : Obj} {p q : Addr × Obj} {r : List (Addr × Obj)} (_ : News h₀ L h (p :: q :: (a, o) :: r)) : ∃ b, b = a := ⟨a, rfl⟩
theorem updF_app {d : Addr} {o : Obj} {g : Obj → List (Addr × Obj)} {r : List (Addr × Obj)} (U : UpdF d o r g) : ∀ {ex : List (Addr × Obj)}, (∀ p ∈ ex, p.1 ≠ d) → UpdF d o (ex ++ r) (fun o' => ex ++ g o')
  | [], _ => U
  | p :: _, h => .tail (h p List.mem_cons_self) (updF_app U fun q hq => h q (List.mem_cons_of_mem _ hq))
/-- what the numbers made so far stand on -/
structure RowAt (base : List (Addr × Obj)) (g : Obj → List (Addr × Obj)) (i : Nat) (ys : List Value) (nw : List (Addr × Obj)) (xs : List Num) (ex : List (Addr × Obj)) (vs : List Value) (c : Nat) (ns : List Int) : Prop where
  len : xs.length = i
  law : ∀ x ∈ xs, x.law
  nums : NumsIn ex ys xs
  above : ∀ p ∈ ex, ∀ q ∈ base, q.1 < p.1
  are : IntsAre vs ns
  fits : ns.length ≤ 1000
  led : nw = ex ++ g (W.listOf vs.toArray c)
theorem row_upd {base : List (Addr × Obj)} {g : Obj → List (Addr × Obj)} {i : Nat} {ys : List Value} {nw : List (Addr × Obj)} {xs : List Num} {ex : List (Addr × Obj)} {vs : List Value} {c : Nat} {ns : List Int} {I : Addr} {o₀ : Obj} {p1 p2 p3 : Addr × Obj}
    (U : UpdF I o₀ base g) (R : RowAt base g i ys nw xs ex vs c ns) (off : LCg.Off3 p1.1 p2.1 p3.1 nw) : UpdF I (W.listOf vs.toArray c) (p1 :: p2 :: p3 :: nw) (fun o => p1 :: p2 :: p3 :: (ex ++ g o)) := by
  have e := R.led
  subst e
  have U1 : UpdF I (W.listOf vs.toArray c) (ex ++ g (W.listOf vs.toArray c)) (fun o => ex ++ g o) := updF_app (updF_next U) fun p hp => by
    obtain ⟨q, hq, e⟩ : ∃ q ∈ base, q.1 = I := ⟨_, updF_mem U, rfl⟩
    exact Nat.ne_of_gt (e ▸ R.above p hp q hq)
  obtain ⟨a, b, c⟩ := off.mem _ (updF_mem U1)
  exact .tail (Ne.symm a) (.tail (Ne.symm b) (.tail (Ne.symm c) U1))
theorem row_next {base : List (Addr × Obj)} {g : Obj → List (Addr × Obj)} {i : Nat} {ys : List Value} {nw : List (Addr × Obj)} {xs : List Num} {ex : List (Addr × Obj)} {vs : List Value} {c : Nat} {ns : List Int} {I : Addr} {o₀ : Obj} {p1 p2 p3 : Addr × Obj}
    {x : Num} {y : Value} {ex1 : List (Addr × Obj)} {vs' : List Value} {c' : Nat} {ns' : List Int} (U : UpdF I o₀ base g) (R : RowAt base g i ys nw xs ex vs c ns) (hx : x.law) (hy : NumIn ex1 y x) (ha : ∀ p ∈ ex1, ∀ q ∈ p1 :: p2 :: p3 :: nw, q.1 < p.1) (hi : IntsAre vs' ns') (hn : ns'.length ≤ ns.length) :
    RowAt base g (i + 1) (ys ++ [y]) (ex1 ++ ex ++ g (W.listOf vs'.toArray c')) (xs ++ [x]) (ex1 ++ ex) vs' c' ns' := by
  have e := R.led
  subst e
  refine ⟨by rw [List.length_append, R.len]; rfl, fun z hz => ?_, (R.nums.mono fun p hp => List.mem_append.mpr (.inr hp)).snoc (hy.mono fun p hp => List.mem_append.mpr (.inl hp)), fun p hp q hq => ?_, hi, Nat.le_trans hn R.fits, rfl⟩
  · rcases List.mem_append.mp hz with hz | hz
    · exact R.law z hz
    · rw [List.mem_singleton.mp hz]; exact hx
  · rcases List.mem_append.mp hp with hp | hp
    · obtain ⟨q', h1, h2⟩ := updF_adr (o' := W.listOf vs.toArray c) U hq
      rw [← h2]
      exact ha p hp q' (List.mem_cons_of_mem _ (List.mem_cons_of_mem _ (List.mem_cons_of_mem _ (List.mem_append.mpr (.inr h1)))))
    · exact R.above p hp q hq
theorem row_sub {ex1 ex X : List (Addr × Obj)} {p1 p2 p3 : Addr × Obj} : ∀ p ∈ p1 :: p2 :: p3 :: (ex1 ++ ex ++ X), p ∈ ex1 ++ (p1 :: p2 :: p3 :: (ex ++ X)) := by
  intro p hp
  simp only [List.mem_append, List.mem_cons] at hp ⊢
  rcases hp with h | h | h | ((h | h) | h) <;> simp [h]
theorem row_off {base : List (Addr × Obj)} {g : Obj → List (Addr × Obj)} {ex ex1 : List (Addr × Obj)} {o o' o₀ : Obj} {I : Addr} {p1 p2 p3 : Addr × Obj} (U : UpdF I o₀ base g) (off : LCg.Off3 p1.1 p2.1 p3.1 (ex ++ g o)) (ha : ∀ p ∈ ex1, ∀ q ∈ p1 :: p2 :: p3 :: (ex ++ g o), q.1 < p.1) :
    LCg.Off3 p1.1 p2.1 p3.1 (ex1 ++ ex ++ g o') := by
  refine LCg.Off3.of fun p hp => ?_
  rcases List.mem_append.mp hp with hp | hp
  · rcases List.mem_append.mp hp with hp | hp
    · exact ⟨Nat.ne_of_gt (ha p hp p1 List.mem_cons_self), Nat.ne_of_gt (ha p hp p2 (List.mem_cons_of_mem _ List.mem_cons_self)), Nat.ne_of_gt (ha p hp p3 (List.mem_cons_of_mem _ (List.mem_cons_of_mem _ List.mem_cons_self)))⟩
    · exact off.mem p (List.mem_append.mpr (.inl hp))
  · obtain ⟨q', h1, h2⟩ := updF_adr (o' := o) (updF_next (o' := o') U) hp
    rw [← h2]
    exact off.mem q' (List.mem_append.mpr (.inr h1))
theorem range_small {k : Int} (h0 : 0 ≤ k) (h1 : k < 1000) : Builtin.Range.small 0 k 1 = true := small_one (by decide) (by decide) (by omega) (by omega)
theorem lines_26 : True := by
  k_with "call ref" => ((k_here; k_dflt (refine' Gives.use (lnum_gives _ _ _ _ _ _ _ _ _ _ (by with_reducible assumption) (by with_reducible assumption) (by with_reducible assumption) (by with_reducible assumption)) (by k_asm) (by k_asm) (by k_asm) (by k_asm) (by k_asm) (by rfl) (by walk_at "ROOM") (by walk_at "ROOM") ?_; intro v' n' h' tk' F' N' P'; obtain ⟨x', ex', vs', c', ns', hx', hin', hab', hi', hle', hn'⟩ := P'; subst hn'; (try dsimp only); (try dsimp only at N'))))
  exact trivial
theorem execs_app {env : Env} (b : List Stmt) : ∀ (a : List Stmt), execs (a ++ b) env = (execs a env >>= fun f => match f with | .next => execs b env | f => pure f)
  | [] => by
    show execs b env = (pure Flow.next >>= _)
    rw [pure_bind]
  | st :: r => by
    show (exec st env >>= fun f => match f with | .next => execs (r ++ b) env | f => pure f) = ((exec st env >>= fun f => match f with | .next => execs r env | f => pure f) >>= _)
    rw [bind_assoc]
    congr 1
    funext f
    cases f with
    | next => exact execs_app b r
    | ret v => rw [pure_bind]
    | brk => rw [pure_bind]
    | cont => rw [pure_bind]
theorem execs_cut (k : Nat) {M : Model} {A : Around} {E : Value → Shared → Prop} {s : Shared} {env : Env} {body : List Stmt} {Q : Flow → Shared → Prop}
    (h : wpAny M A (execs (body.take k) env) (fun f s' => match f with | .next => wpAny M A (execs (body.drop k) env) Q E s' | f => Q f s') E s) : wpAny M A (execs body env) Q E s := by
  have e := execs_app (env := env) (body.drop k) (body.take k)
  rw [List.take_append_drop] at e
  rw [e]
  refine wpAny_bind (wpAny_mono h (fun f s' q => ?_) fun _ _ e => e)
  cases f with
  | next => exact q
  | ret v => exact wpAny_pure q
  | brk => exact wpAny_pure q
  | cont => exact wpAny_pure q
theorem map1 {m : Str → Option Value} {a : Str} {v : Value} (h : m a = some v) : m = fun y => if y = a then some v else m y := by
  funext y
  split
  · rename_i e; rw [e, h]
  · rfl
/-- what holds of the frame and of the text round it in each part of the law -/
structure LawAt (w : World) (loose : List Str) (mean : ExcName → Option Value) (mg mb : Str → Option Value) (dp un : Nat) (outer : List Env) (A₀ : Around) (base h₀ : Heap) : Prop where
  B : Below A₀ base outer h₀
  K : (hd.heap_39 w.params).In h₀
  T : Top hd.view_39 loose mean mg mb h₀
  dp : dp + 40 < recursionLimit
  un : un + 8 * 40 < cLine
section
variable {w : World} {loose : List Str} {mean : ExcName → Option Value} {mg mb : Str → Option Value} {dp un : Nat} {gd : Option (List Code)} {outer : List Env} {A₀ : Around} {base h₀ : Heap} {L fa : Addr} {cdv : Value} {s : Shared} {Q : Flow → Shared → Prop} {E : Value → Shared → Prop} {m0 : Str → Option Value}
set_option maxHeartbeats 40000000 in
theorem law_S2 (hA : LawAt w loose mean mg mb dp un outer A₀ base h₀) {k : Int} {tm t0 : Tok} {B I D1 : Addr} {ob od c3 c4 : Obj} {nb c nd : Nat} {v3 : Option Value} {vs ws : List Value} {ns : List Int}
    (hF : Fr h₀ L s.heap (fun y => if y = Str.ofString "many" then some (.int k tm) else m0 y))
    (hN : News h₀ L s.heap [(B, W.listOf #[.ref I, .int 0 t0] nb), (I, W.listOf vs.toArray c), (D1, W.listOf ws.toArray nd), (L + 1 + 1 + 1 + 1, c4), (L + 1 + 1 + 1, c3), (L + 1 + 1, od), (L + 1, ob)])
    (hI : D1 < I) (hB1 : I < B) (hD : L + 1 + 1 + 1 + 1 < D1) (db : ob.data = .cell (some (.ref B))) (d3 : c3.data = .cell v3) (hi : IntsAre vs ns) (hz : ns.length ≤ 1000) (k0 : 0 ≤ k) (k1 : k < 7)
    (hnext : ∀ h' tk' R ys xs ex (vs' : List Value) c' orow, Fr h₀ L h' (fun y => if y = Str.ofString "many" then some (.int k tm) else m0 y) →
      News h₀ L h' ((R, LCg.lst ys) :: (B, W.listOf #[.ref I, .int 0 t0] nb) :: (I, W.listOf vs'.toArray c') :: (D1, W.listOf ws.toArray nd) :: (L + 1 + 1 + 1 + 1, c4) :: (L + 1 + 1 + 1, orow) :: (L + 1 + 1, od) :: (L + 1, ob) :: ex) →
      orow.data = .cell (some (.ref R)) → (xs.length : Int) = k → (∀ x ∈ xs, x.law) → NumsIn ex ys xs → (∀ p ∈ ex, p.1 ≠ L + 1 + 1 + 1 + 1) → R ≠ L + 1 + 1 + 1 + 1 → Q .next { s with heap := h', toks := tk' }) :
    wpAny (model PR w) (lawA dp un gd L fa cdv outer) (execs ((lawRec.body.drop 3).take 1) (lawE L fa cdv)) Q E s := by
  obtain ⟨hB', hK, hT, hdp, hun⟩ := hA
  replace hI := ltN hI
  replace hB1 := ltN hB1
  replace hD := ltN hD
  dsimp only [lawRec, recOf, List.drop, List.take]
  k_steps
  unfold Paused
  rename Fr _ _ _ _ => F1
  rename News _ _ _ _ => N1
  rename IsRange _ _ _ _ _ _ _ _ => hr
  have U : UpdF I (W.listOf vs.toArray c) [(B, W.listOf #[.ref I, .int 0 t0] nb), (I, W.listOf vs.toArray c), (D1, W.listOf ws.toArray nd), (L + 1 + 1 + 1 + 1, c4), (L + 1 + 1 + 1, c3), (L + 1 + 1, od), (L + 1, ob)]
    (fun o => [(B, W.listOf #[.ref I, .int 0 t0] nb), (I, o), (D1, W.listOf ws.toArray nd), (L + 1 + 1 + 1 + 1, c4), (L + 1 + 1 + 1, c3), (L + 1 + 1, od), (L + 1, ob)]) := by k_updF
  generalize hbase : [(B, W.listOf #[.ref I, .int 0 t0] nb), (I, W.listOf vs.toArray c), (D1, W.listOf ws.toArray nd), (L + 1 + 1 + 1 + 1, c4), (L + 1 + 1 + 1, c3), (L + 1 + 1, od), (L + 1, ob)] = base1 at U N1
  generalize hg : (fun o => [(B, W.listOf #[.ref I, .int 0 t0] nb), (I, o), (D1, W.listOf ws.toArray nd), (L + 1 + 1 + 1 + 1, c4), (L + 1 + 1 + 1, c3), (L + 1 + 1, od), (L + 1, ob)]) = g1 at U
  have hBg : ∀ o, (B, W.listOf #[.ref I, .int 0 t0] nb) ∈ g1 o := fun o => by rw [← hg]; exact List.mem_cons_self
  have hbg : ∀ o, (L + 1, ob) ∈ g1 o := fun o => by rw [← hg]; k_mem
  refine LCg.CompSrc.range (n := k.toNat) rfl F1 N1 hr (range_small k0 (by omega)) (by rw [rangeSize_nat]; simp) (by rw [sizeLine_eq]; omega) fun gh => ?_
  refine' comp_inv (fun i ys nw => ∃ xs ex vs c ns, RowAt base1 g1 i ys nw xs ex vs c ns) ?wT ?wF _ _ _ _ (Nat.zero_add _) ⟨[], [], vs, c, ns, rfl, (fun _ h => nomatch h), .nil, (fun _ h => nomatch h), hi, hz, (updF_self U).symm⟩
  case wT =>
    rintro i ys nw v J oJ C oC R m₂ h tk E' hin ⟨xs, ex, vs1, c1, ns1, hR⟩ hv T
    obtain ⟨hC, hx, F, N, off, ne1, ne2, ne3⟩ := T
    clear F1 N1 hr
    have U1 := row_upd (p1 := (J, oJ)) (p2 := (C, oC)) (p3 := (R, LCg.lst ys)) U hR off
    have hi1 := hR.are
    have hz1 := hR.fits
    have hBm : ∀ o, (B, W.listOf #[.ref I, .int 0 t0] nb) ∈ (J, oJ) :: (C, oC) :: (R, LCg.lst ys) :: (ex ++ g1 o) := fun o => List.mem_cons_of_mem _ (List.mem_cons_of_mem _ (List.mem_cons_of_mem _ (List.mem_append.mpr (.inr (hBg o)))))
    have hbm : (L + 1, ob) ∈ nw := by rw [hR.led]; exact List.mem_append.mpr (.inr (hbg _))
    obtain ⟨tv, hv⟩ := hv
    subst hv
    k_steps
    unfold Paused
    rename (Num.law _) => hlx
    rename NumIn _ _ _ => hnx
    rename (∀ p ∈ _, ∀ q ∈ _ :: _ :: _ :: nw, _) => hab
    rename (List.length _ ≤ List.length ns1) => hle
    rename IntsAre _ _ => hia
    have e := hR.led
    subst e
    exact LCg.CompEnd.intro (by assumption) (by with_reducible assumption) _ row_sub (row_off (p1 := (J, oJ)) (p2 := (C, oC)) (p3 := (R, LCg.lst ys)) U off hab) trivial ⟨_, _, _, _, _, row_next U hR hlx hnx hab hia hle⟩
  case wF =>
    rintro ys nw ⟨xs, ex, vs1, c1, ns1, hR⟩
    clear F1 N1 hr
    have e := hR.led
    rw [← hg] at e
    subst e
    unfold LCg.FinE
    intro R h tk F N o1
    dsimp only at N o1
    have hne := off1_ne o1
    have n4 : R ≠ L + 1 + 1 + 1 + 1 := Ne.symm (hne (L + 1 + 1 + 1 + 1, c4) (List.mem_append.mpr (.inr (by k_mem))))
    have n3 : R ≠ L + 1 + 1 + 1 := Ne.symm (hne (L + 1 + 1 + 1, c3) (List.mem_append.mpr (.inr (by k_mem))))
    have e4 : ∀ p ∈ ex, p.1 ≠ L + 1 + 1 + 1 + 1 := fun p hp => Nat.ne_of_gt (hR.above p hp (L + 1 + 1 + 1 + 1, c4) (by rw [← hbase]; k_mem))
    have e3 : ∀ p ∈ ex, p.1 ≠ L + 1 + 1 + 1 := fun p hp => Nat.ne_of_gt (hR.above p hp (L + 1 + 1 + 1, c3) (by rw [← hbase]; k_mem))
    have N2 : News h₀ L h ((R, LCg.lst ys) :: (B, W.listOf #[.ref I, .int 0 t0] nb) :: (I, W.listOf vs1.toArray c1) :: (D1, W.listOf ws.toArray nd) :: (L + 1 + 1 + 1 + 1, c4) :: (L + 1 + 1 + 1, c3) :: (L + 1 + 1, od) :: (L + 1, ob) :: ex) := cb_drop N fun p hp => by
      simp only [List.mem_append, List.mem_cons, List.not_mem_nil] at hp ⊢
      rcases hp with h | h | h | h | h | h | h | h | h <;> simp [h]
    clear N
    have n3' := n3
    k_steps
    exact hnext _ _ R ys xs ex vs1 c1 _ (by assumption) (by with_reducible assumption) (by assumption) (by rw [hR.len]; omega) hR.law hR.nums e4 n4
end
theorem fresh_P21 : True := by
  w_top off
  exact trivial
section
variable {prog : Program} {w : World} {A : Around} {E : Value → Shared → Prop} {s : Shared} {h₀ : Heap} {L l a b : Addr} {m : Str → Option Value} {news : List (Addr × Obj)} {vs ws : List Value} {n k : Nat} {Q : Value → Shared → Prop}
theorem r_copy (F : Fr h₀ L s.heap m) (N : News h₀ L s.heap news) (hl : (l, W.listOf vs.toArray n) ∈ news) (hz : vs.length ≤ 10000)
    (h : ∀ D c h', Fr h₀ L h' m → News h₀ L h' ((D, W.listOf vs.toArray c) :: news) → (∀ p ∈ news, p.1 < D) → Q (.ref D) { s with heap := h' }) : wpAny (model prog w) A (call (.type "list") [.ref l]) Q E s := by
  refine call_list_seq (hsz := by rw [List.size_toArray, sizeLine_eq]; omega) l (.inl rfl) (N.get hl) rfl rfl fun h' c' hk hD => ?_
  refine h _ c' h' (F.keeps hk) (fun p hp => ?_) fun p hp => Heap.lt_size (N p hp).1
  rcases List.mem_cons.mp hp with rfl | hp
  · exact ⟨hD, Ne.symm (Nat.ne_of_lt F.ns.lt), next_is_new F⟩
  · exact ⟨hk _ _ (N p hp).1, (N p hp).2⟩
theorem r_addl (F : Fr h₀ L s.heap m) (N : News h₀ L s.heap news) (ha : (a, W.listOf vs.toArray n) ∈ news) (hb : (b, W.listOf ws.toArray k) ∈ news) (hz : vs.length ≤ 10000) (hz2 : ws.length ≤ 10000)
    (h : ∀ D h', Fr h₀ L h' m → News h₀ L h' ((D, W.listOf (vs ++ ws).toArray 0) :: news) → (∀ p ∈ news, p.1 < D) → Q (.ref D) { s with heap := h' }) : wpAny (model prog w) A (binaryOp .Add (.ref a) (.ref b)) Q E s :=
  kmk_add_lit F N (N.isList ha) (N.isList hb) (by simp) h (by simp only [List.toList_toArray, sizeLine_eq]; omega)
end
theorem lines_27 : True := by
  k_with "FEW" => (first | with_reducible assumption | ((simp only [List.length_append, List.length_reverse]); omega) | omega)
  k_with "call type:list" => ((k_here; (with_reducible show wpAny _ _ (call (Value.type _) [Value.ref _]) _ _ _); refine' r_copy (by k_asm) (by k_asm) (by k_mem) (by walk_at "FEW") ?_; k_whole; intro D' c' h' F' N' l1; (try k_lt l1)))
  k_with "binaryOp Add ref ref" => ((k_here; (with_reducible show wpAny _ _ (binaryOp _ (Value.ref _) (Value.ref _)) _ _ _); refine' r_addl (by k_asm) (by k_asm) (by k_mem) (by k_mem) (by walk_at "FEW") (by walk_at "FEW") ?_; k_whole; intro D' h' F' N' l1; (try k_lt l1)))
  exact trivial
theorem TxtsAt.length {vs : List Value} {xs : List Str} (h : TxtsAt vs xs) : vs.length = xs.length := by
  induction h with
  | nil => rfl
  | cons _ ih => simp [ih]
theorem commonT_length (D : Int) (xs : List Num) : (commonT D xs).length = xs.length := List.length_map _
theorem txts_few {ts : List Value} {D : Int} {xs : List Num} (h : TxtsAt ts (commonT D xs)) (hz : xs.length ≤ 10000) : ts.length ≤ 10000 := by rw [h.length, commonT_length]; exact hz
theorem neU1 {l I : Addr} {o₀ : Obj} {news : List (Addr × Obj)} {g : Obj → List (Addr × Obj)} (h : ∀ p ∈ news, p.1 < l) (U : UpdF I o₀ news g) : l ≠ I := Nat.ne_of_gt (h _ (updF_mem U))
theorem neU2 {l I : Addr} {o₀ : Obj} {news : List (Addr × Obj)} {g : Obj → List (Addr × Obj)} (h : AllLt l news) (U : UpdF I o₀ news g) : l ≠ I := neU1 (allLt_all h) U
theorem neU3 {l I : Addr} {o₀ : Obj} {q : Addr × Obj} {news : List (Addr × Obj)} {g : Obj → List (Addr × Obj)} (h : ∀ p ∈ q :: news, p.1 ≠ l) (U : UpdF I o₀ news g) : l ≠ I := Ne.symm (h _ (List.mem_cons_of_mem _ (updF_mem U)))
local macro_rules | `(tactic| k_ne) => `(tactic| first
  | exact neU1 (by with_reducible assumption) (by with_reducible assumption)
  | exact neU2 (And.right (by with_reducible assumption)) (by with_reducible assumption)
  | exact neU2 (And.right (And.right (by with_reducible assumption))) (by with_reducible assumption)
  | exact neU2 (And.right (And.right (And.right (by with_reducible assumption)))) (by with_reducible assumption)
  | exact neU3 (by with_reducible assumption) (by with_reducible assumption))
theorem lines_28 : True := by
  k_with "call ref" => ((k_here; k_dflt (refine' Gives.go (by k_asm) (by k_asm) (by k_asm) (by k_asm) (by k_asm) (by rfl) (common_gives _ _ _ _ _ _ _ _ (by k_mem) (by walk_at "NUMS") (by with_reducible assumption) (by walk_at "FEW") (by walk_at "SM") (by walk_at "SM")) (by walk_at "ROOM") (by walk_at "ROOM") ?_; intro v' n' h' tk' F' N' P'; obtain ⟨D', ts', c', hv', lne', hts', hn'⟩ := P'; subst hv' hn'; (have hfew' := txts_few hts' (by walk_at "FEW")); (try dsimp only); (try k_sweep))))
  exact trivial
/-- the law's state behind its words -/
structure LawSt (L : Addr) (news : List (Addr × Obj)) (R : Addr) (ys : List Value) (nR : Nat) (WL : Addr) (ts : List Value) (nW : Nat) (od orow ow : Obj) (xs : List Num) (D : Int) (k : Int) (td : Tok) : Prop where
  row : (R, W.listOf ys.toArray nR) ∈ news
  words : (WL, W.listOf ts.toArray nW) ∈ news
  cd : (L + 1 + 1, od) ∈ news
  cr : (L + 1 + 1 + 1, orow) ∈ news
  cw : (L + 1 + 1 + 1 + 1, ow) ∈ news
  dd : od.data = .cell (some (.int D td))
  dr : orow.data = .cell (some (.ref R))
  dw : ow.data = .cell (some (.ref WL))
  nums : NumsIn news ys xs
  txts : TxtsAt ts (commonT D xs)
  law : ∀ x ∈ xs, x.law
  len : (xs.length : Int) = k
  few : xs.length < 7
  lo : 1 ≤ D
  hi : D ≤ 15
section
variable {w : World} {loose : List Str} {mean : ExcName → Option Value} {mg mb : Str → Option Value} {dp un : Nat} {gd : Option (List Code)} {outer : List Env} {A₀ : Around} {base h₀ : Heap} {L fa : Addr} {cdv : Value} {s : Shared} {Q : Flow → Shared → Prop} {E : Value → Shared → Prop} {m0 : Str → Option Value}
set_option maxHeartbeats 40000000 in
theorem law_S3 (hA : LawAt w loose mean mg mb dp un outer A₀ base h₀) {k : Int} {tm : Tok} {R : Addr} {od orow c4 : Obj} {nR : Nat} {v4 : Option Value} {ys : List Value} {xs : List Num} {D : Int} {td : Tok} {news : List (Addr × Obj)} {g : Obj → List (Addr × Obj)}
    (hF : Fr h₀ L s.heap (fun y => if y = Str.ofString "many" then some (.int k tm) else m0 y)) (hN : News h₀ L s.heap news) (U : UpdF (L + 1 + 1 + 1 + 1) c4 news g)
    (hr : ∀ o, (R, W.listOf ys.toArray nR) ∈ g o) (hcd : ∀ o, (L + 1 + 1, od) ∈ g o) (hcr : ∀ o, (L + 1 + 1 + 1, orow) ∈ g o) (hn : ∀ o, NumsIn (g o) ys xs)
    (dd : od.data = .cell (some (.int D td))) (dr : orow.data = .cell (some (.ref R))) (d4 : c4.data = .cell v4) (hx : ∀ x ∈ xs, x.law) (hk : (xs.length : Int) = k) (k1 : k < 7) (h1 : 1 ≤ D) (h2 : D ≤ 15)
    (hnext : ∀ h' tk' news' W ts nW ow, Fr h₀ L h' (fun y => if y = Str.ofString "many" then some (.int k tm) else m0 y) → News h₀ L h' news' → LawSt L news' R ys nR W ts nW od orow ow xs D k td → Q .next { s with heap := h', toks := tk' }) :
    wpAny (model PR w) (lawA dp un gd L fa cdv outer) (execs ((lawRec.body.drop 4).take 1) (lawE L fa cdv)) Q E s := by
  obtain ⟨hB', hK, hT, hdp, hun⟩ := hA
  have hr0 := hr c4
  have hcd0 := hcd c4
  have hcr0 := hcr c4
  have hn0 := hn c4
  rw [updF_self U] at hr0 hcd0 hcr0 hn0
  have hok : ∀ x ∈ xs, x.ok := fun x h => (hx x h).ok
  have hz : xs.length ≤ 10000 := by omega
  have hzy : ys.length ≤ 10000 := by rw [hn0.length]; exact hz
  dsimp only [lawRec, recOf, List.drop, List.take]
  k_steps
  rename TxtsAt _ _ => hts
  exact hnext _ _ _ _ _ _ _ (by assumption) (by with_reducible assumption) ⟨by k_mem, by k_mem, by k_mem, by k_mem, List.mem_cons_of_mem _ (List.mem_cons_of_mem _ (List.mem_cons_of_mem _ (updF_mem (updF_next U)))), dd, dr, by assumption, (hn _).mono (by walk_at "SUBL"), hts, hx, hk, by omega, h1, h2⟩
end
theorem fresh_P22 : True := by
  w_top off
  exact trivial
theorem pmax_comm3 (a b c : Int) : pmax (pmax a b) c = pmax (pmax a c) b := by
  unfold pmax
  repeat' split
  all_goals omega
theorem pmax_idem2 (a b : Int) : pmax (pmax a b) b = pmax a b := by
  unfold pmax
  repeat' split
  all_goals omega
theorem chStep_comm (D : Int) (c : Int × Int × Int × Int) (x y : Num) : chStep D (chStep D c x) y = chStep D (chStep D c y) x := by
  cases x <;> cases y <;> simp only [chStep]
  rename_i a b p q
  rw [pmax_comm3 c.1, pmax_comm3 c.2.1, pmax_comm3 c.2.2.1]
  by_cases h : a < 0 <;> by_cases h' : p < 0 <;> simp [h, h']
theorem chStep_idem (D : Int) (c : Int × Int × Int × Int) (x : Num) : chStep D (chStep D c x) x = chStep D c x := by
  cases x <;> simp only [chStep]
  rw [pmax_idem2, pmax_idem2, pmax_idem2]
  split <;> rfl
section
variable {α β : Type} {f : β → α → β}
theorem foldl_out (hc : ∀ c x y, f (f c x) y = f (f c y) x) : ∀ (l : List α) (c : β) (x : α), l.foldl f (f c x) = f (l.foldl f c) x
  | [], _, _ => rfl
  | y :: r, c, x => by
    show r.foldl f (f (f c x) y) = f (r.foldl f (f c y)) x
    rw [hc, foldl_out hc r]
theorem foldl_rev (hc : ∀ c x y, f (f c x) y = f (f c y) x) : ∀ (l : List α) (c : β), l.reverse.foldl f c = l.foldl f c
  | [], _ => rfl
  | x :: r, c => by
    rw [List.reverse_cons, List.foldl_append, foldl_rev hc r]
    exact (foldl_out hc r c x).symm
theorem foldl_twice (hc : ∀ c x y, f (f c x) y = f (f c y) x) (hi : ∀ c x, f (f c x) x = f c x) : ∀ (l : List α) (c : β), l.foldl f (l.foldl f c) = l.foldl f c
  | [], _ => rfl
  | x :: r, c => by
    show r.foldl f (f (r.foldl f (f c x)) x) = r.foldl f (f c x)
    rw [foldl_out hc r, foldl_twice hc hi r, foldl_out hc r, hi]
end
theorem chAcc_rev (D : Int) (xs : List Num) : chAcc D xs.reverse = chAcc D xs := foldl_rev (chStep_comm D) xs _
theorem chAcc_twice (D : Int) (xs : List Num) : chAcc D (xs ++ xs) = chAcc D xs := by
  unfold chAcc
  rw [List.foldl_append]
  exact foldl_twice (chStep_comm D) (chStep_idem D) xs _
theorem formOf_congr {D : Int} {xs ys : List Num} (h : chAcc D xs = chAcc D ys) : formOf D xs = formOf D ys := by
  unfold formOf chFixed
  rw [h]
theorem commonT_rev (D : Int) (xs : List Num) : commonT D xs.reverse = (commonT D xs).reverse := by
  unfold commonT
  rw [List.filter_reverse, formOf_congr (chAcc_rev D _), List.map_reverse]
theorem commonT_twice (D : Int) (xs : List Num) : commonT D (xs ++ xs) = commonT D xs ++ commonT D xs := by
  unfold commonT
  rw [List.filter_append, formOf_congr (chAcc_twice D _), List.map_append]
theorem commonT_bare (D : Int) (xs : List Num) : commonT D (xs.filter Num.frac) = (xs.filter Num.frac).map (formT (formOf D (xs.filter Num.frac)).1 (formOf D (xs.filter Num.frac)).2) := by
  unfold commonT
  rw [List.filter_filter]
  simp
/- cuts of texts -/
theorem slice_all {x : Str} {a b : Nat} (hab : a ≤ b) (hb : b ≤ x.length) (l u : Option Int) (e : Builtin.Str.strSliceIndices l u 1 x.length = Builtin.Str.strSliceIndices (some (a : Int)) (some (b : Int)) 1 x.length) :
    (Txt.slice x l u).cps.toList = (x.cps.toList.drop a).take (b - a) := by
  have hp := StrLaws.sliced_plain x hab hb
  unfold Txt.slice
  rw [e]
  split
  · rename_i h
    rw [StrLaws.strSliceIndices_plain hab hb] at h
    simp at h
    have h1 : a = 0 := by omega
    have h2 : b = x.length := by omega
    subst h1 h2
    rw [List.drop_zero, List.take_of_length_le (by simp [Str.length])]
  · rw [hp]
theorem slice_to {x : Str} {k : Nat} (hk : k ≤ x.length) : (Txt.slice x none (some (k : Int))).cps.toList = x.cps.toList.take k := by
  rw [slice_all (Nat.zero_le k) hk none (some (k : Int)) (by
    unfold Builtin.Str.strSliceIndices
    simp only [show (1 : Int) > 0 from by decide, if_true]
    congr 1)]
  simp
theorem slice_from {x : Str} {k : Nat} (hk : k ≤ x.length) : (Txt.slice x (some (k : Int)) none).cps.toList = x.cps.toList.drop k := by
  rw [slice_all hk (Nat.le_refl _) (some (k : Int)) none (by
    unfold Builtin.Str.strSliceIndices
    simp only [show (1 : Int) > 0 from by decide, if_true]
    congr 1
    rw [if_neg (by omega)]
    omega)]
  rw [List.take_of_length_le (by simp [Str.length])]
theorem Dig.no {x : Str} (h : Dig x) {c : Nat} (hc : c < 48 ∨ 57 < c) : ¬ c ∈ x.cps.toList := fun hm => by have := h c hm; omega
/- the figures of a text -/
theorem front_none {x : Str} (h : ¬ 101 ∈ x.cps.toList) : front x = x := by
  unfold front
  rw [e_is, split_one h]
  rfl
theorem front_e {x : Str} {M R : List Nat} (hx : x.cps.toList = M ++ 101 :: R) (hM : ¬ 101 ∈ M) (hR : ¬ 101 ∈ R) : front x = ⟨M.toArray⟩ := by
  unfold front
  rw [e_is, split_two hx hM hR]
  rfl
theorem figs_none {x F : Str} (hf : front x = F) (h : ¬ 46 ∈ F.cps.toList) : figs x = 0 := by
  unfold figs
  rw [hf, if_neg h]
theorem figs_dot {x F : Str} {A B : List Nat} (hf : front x = F) (hF : F.cps.toList = A ++ 46 :: B) (hA : ¬ 46 ∈ A) (hB : ¬ 46 ∈ B) : figs x = B.length := by
  unfold figs
  rw [hf, if_pos (by rw [hF]; simp), dot_is, split_two hF hA hB]
  simp [Str.length]
theorem dig_of {l : List Nat} {x : Str} (h : Dig x) (hs : ∀ c ∈ l, c ∈ x.cps.toList) {c : Nat} (hc : c < 48 ∨ 57 < c) : ¬ c ∈ l := fun hm => h.no hc (hs c hm)
theorem fixN_nn {a b k : Int} (hb : 0 < b) : 0 ≤ fixN a b k := by
  unfold fixN
  exact nw_ge hb (by rw [Int.zero_mul]; exact Int.mul_nonneg (by omega) (Int.le_of_lt (p10_pos _)))
theorem fixP_dig {a b k : Int} (hb : 0 < b) : Dig (fixP a b k) := rjustF_dig (wtext_dig (fixN_nn hb))
theorem fixP_len {a b k : Int} (hk : 0 ≤ k) : k < ((fixP a b k).length : Int) := by
  unfold fixP
  rw [rjustF_len]
  omega
noncomputable def minusS (a : Int) : List Nat := if a < 0 then [45] else []
theorem fixT_cps (a b k : Int) : (fixT a b k).cps.toList = minusS a ++ (fixU a b k).cps.toList := by
  unfold fixT minusS
  split
  · rw [Str.cps_append, Array.toList_append]; rfl
  · rfl
theorem minusS_no {a : Int} {c : Nat} (hc : c ≠ 45) : ¬ c ∈ minusS a := by
  unfold minusS
  split <;> simp [hc]
theorem fixU_cps {a b : Int} {n : Nat} (hn : 0 < n) : (fixU a b n).cps.toList = (fixP a b n).cps.toList.take ((fixP a b n).length - n) ++ 46 :: (fixP a b n).cps.toList.drop ((fixP a b n).length - n) := by
  have hl := fixP_len (a := a) (b := b) (k := (n : Int)) (by omega)
  unfold fixU
  rw [if_pos (by omega), show ((fixP a b (n : Int)).length : Int) - (n : Int) = (((fixP a b (n : Int)).length - n : Nat) : Int) by omega]
  simp only [Str.cps_append, Array.toList_append]
  rw [slice_to (by omega), slice_from (by omega), List.append_assoc]
  rfl
theorem fixed_facts {a b : Int} {n : Nat} (hb : 0 < b) : (¬ 101 ∈ (fixT a b n).cps.toList) ∧ figs (fixT a b n) = n := by
  have hd := fixP_dig (a := a) (k := (n : Int)) hb
  have hl := fixP_len (a := a) (b := b) (k := (n : Int)) (by omega)
  by_cases hn : 0 < n
  · have e := fixT_cps a b n
    rw [fixU_cps hn, ← List.append_assoc] at e
    have ht : ∀ c ∈ (fixP a b n).cps.toList.take ((fixP a b n).length - n), c ∈ (fixP a b n).cps.toList := fun c h => List.mem_of_mem_take h
    have hr : ∀ c ∈ (fixP a b n).cps.toList.drop ((fixP a b n).length - n), c ∈ (fixP a b n).cps.toList := fun c h => List.mem_of_mem_drop h
    have h1 : ¬ 101 ∈ (fixT a b n).cps.toList := by
      rw [e]
      simp only [List.mem_append, List.mem_cons]
      rintro ((h | h) | h | h)
      · exact minusS_no (by decide) h
      · exact dig_of hd ht (by decide) h
      · cases h
      · exact dig_of hd hr (by decide) h
    refine ⟨h1, ?_⟩
    rw [figs_dot (front_none h1) e (fun h => (List.mem_append.mp h).elim (minusS_no (by decide)) (dig_of hd ht (by decide))) (dig_of hd hr (by decide))]
    have : (fixP a b n).cps.toList.length = (fixP a b n).length := by simp [Str.length]
    rw [List.length_drop, this]
    omega
  · have hn0 : n = 0 := by omega
    subst hn0
    have e := fixT_cps a b ((0 : Nat) : Int)
    have eu : fixU a b ((0 : Nat) : Int) = fixP a b ((0 : Nat) : Int) := by unfold fixU; rw [if_neg (by decide)]
    rw [eu] at e
    have h1 : ¬ 101 ∈ (fixT a b ((0 : Nat) : Int)).cps.toList := by
      rw [e]
      exact fun h => (List.mem_append.mp h).elim (minusS_no (by decide)) (hd.no (by decide))
    refine ⟨h1, ?_⟩
    rw [figs_none (front_none h1) (by
      rw [e]
      exact fun h => (List.mem_append.mp h).elim (minusS_no (by decide)) (hd.no (by decide)))]
    rfl
theorem sci_facts {a b : Int} {n : Nat} (hf : Frac a b) (hn : 1 ≤ n) : (101 ∈ (sciT a b n).cps.toList) ∧ figs (sciT a b n) = (n : Int) - 1 := by
  have hd := sig_dig hf (D := (n : Int)) (by omega)
  have hl := sig_len hf (D := (n : Int)) (by omega)
  have hE : Dig (Txt.rjustF (strI ((sig a b (n : Int)).2.2.natAbs : Int)) 2 48) := rjustF_dig (strI_dig (by omega))
  have hi : Txt.item (sig a b (n : Int)).2.1 0 = ⟨#[(sig a b (n : Int)).2.1.cps.getD 0 0]⟩ := item_meets ⟨by decide, by omega⟩
  have hc0 : (sig a b (n : Int)).2.1.cps.getD 0 0 ∈ (sig a b (n : Int)).2.1.cps.toList := by
    have h0 : 0 < (sig a b (n : Int)).2.1.cps.size := by have : (sig a b (n : Int)).2.1.length = (sig a b (n : Int)).2.1.cps.size := rfl; omega
    rw [Array.getD_eq_getD_getElem?, Array.getElem?_eq_getElem h0]
    simp
  have hcd := hd _ hc0
  have hs : ∀ (c : Nat), c ≠ 45 → ¬ c ∈ (if (sig a b (n : Int)).1 < 0 then Str.ofString "-" else Str.ofString "").cps.toList := by
    intro c hc
    split
    · show ¬ c ∈ [45]; simp [hc]
    · show ¬ c ∈ []; simp
  have hx : ∃ sg : Nat, (if (sig a b (n : Int)).2.2 < 0 then Str.ofString "e-" else Str.ofString "e+").cps.toList = [101, sg] ∧ sg ≠ 101 := by
    split
    · exact ⟨45, rfl, by decide⟩
    · exact ⟨43, rfl, by decide⟩
  obtain ⟨sg, hx, hsg⟩ := hx
  generalize hS : (if (sig a b (n : Int)).1 < 0 then Str.ofString "-" else Str.ofString "").cps.toList = S at hs
  generalize hC : (sig a b (n : Int)).2.1.cps.getD 0 0 = c0 at hi hc0 hcd
  generalize hR : (Txt.rjustF (strI ((sig a b (n : Int)).2.2.natAbs : Int)) 2 48).cps.toList = R at *
  have hRn : ¬ 101 ∈ sg :: R := by
    rw [List.mem_cons, ← hR]
    exact fun h => h.elim (fun h => hsg h.symm) (hE.no (by decide))
  by_cases h1 : 1 < n
  · have hT := slice_from (x := (sig a b (n : Int)).2.1) (k := 1) (by omega)
    have e : (sciT a b n).cps.toList = (S ++ [c0] ++ 46 :: (sig a b (n : Int)).2.1.cps.toList.drop 1) ++ 101 :: (sg :: R) := by
      unfold sciT
      rw [if_pos (by omega)]
      simp only [Str.cps_append, Array.toList_append, hS, hi, hR, hx]
      rw [show ((1 : Nat) : Int) = 1 from rfl] at hT
      rw [hT]
      show S ++ [c0] ++ [46] ++ _ ++ _ ++ _ = _
      simp
    have hTn : ∀ c, (c < 48 ∨ 57 < c) → ¬ c ∈ (sig a b (n : Int)).2.1.cps.toList.drop 1 := fun c hc => dig_of hd (fun c h => List.mem_of_mem_drop h) hc
    have hM : ¬ 101 ∈ S ++ [c0] ++ 46 :: (sig a b (n : Int)).2.1.cps.toList.drop 1 := by
      simp only [List.mem_append, List.mem_cons, List.not_mem_nil, or_false]
      rintro ((h | h) | h | h)
      · exact hs 101 (by decide) h
      · omega
      · cases h
      · exact hTn 101 (by decide) h
    refine ⟨by rw [e]; simp, ?_⟩
    rw [figs_dot (front_e e hM hRn) (by rfl) (by
      simp only [List.mem_append, List.mem_cons, List.not_mem_nil, or_false]
      rintro (h | h)
      · exact hs 46 (by decide) h
      · omega) (hTn 46 (by decide)), List.length_drop]
    have : (sig a b (n : Int)).2.1.cps.toList.length = (sig a b (n : Int)).2.1.length := by simp [Str.length]
    rw [this]
    omega
  · have hn1 : n = 1 := by omega
    subst hn1
    have e : (sciT a b ((1 : Nat) : Int)).cps.toList = (S ++ [c0]) ++ 101 :: (sg :: R) := by
      unfold sciT
      rw [if_neg (by decide)]
      simp only [Str.cps_append, Array.toList_append, hS, hi, hR, hx]
      simp
    have hM : ¬ 101 ∈ S ++ [c0] := by
      simp only [List.mem_append, List.mem_cons, List.not_mem_nil, or_false]
      rintro (h | h)
      · exact hs 101 (by decide) h
      · omega
    refine ⟨by rw [e]; simp, ?_⟩
    rw [figs_none (front_e e hM hRn) (by
      simp only [List.mem_append, List.mem_cons, List.not_mem_nil, or_false]
      rintro (h | h)
      · exact hs 46 (by decide) h
      · omega)]
    rfl
/- all signs are small -/
noncomputable def Asc (x : Str) : Prop := ∀ c ∈ x.cps.toList, c < 128
theorem Asc.append {x y : Str} (h : Asc x) (h' : Asc y) : Asc (x ++ y) := by
  intro c hc
  rw [Str.cps_append, Array.toList_append] at hc
  exact (List.mem_append.mp hc).elim (h c) (h' c)
theorem Dig.asc {x : Str} (h : Dig x) : Asc x := fun c hc => by have := h c hc; omega
theorem Asc.strOk {x : Str} (h : Asc x) : PyData.strOk x = true := by
  unfold PyData.strOk
  rw [Array.all_eq_true_iff_forall_mem]
  intro c hc
  have := h c (by simpa using hc)
  simp
  omega
theorem fixT_asc {a b : Int} {n : Nat} (hb : 0 < b) : Asc (fixT a b n) := by
  have hd := fixP_dig (a := a) (k := (n : Int)) hb
  have hm : ∀ c ∈ minusS a, c < 128 := by
    intro c hc
    unfold minusS at hc
    split at hc
    · rw [List.mem_singleton.mp hc]; decide
    · cases hc
  intro c hc
  rw [fixT_cps] at hc
  rcases List.mem_append.mp hc with hc | hc
  · exact hm c hc
  · by_cases hn : 0 < n
    · rw [fixU_cps hn] at hc
      rcases List.mem_append.mp hc with hc | hc
      · exact hd.asc c (List.mem_of_mem_take hc)
      · rcases List.mem_cons.mp hc with rfl | hc
        · decide
        · exact hd.asc c (List.mem_of_mem_drop hc)
    · have eu : fixU a b (n : Int) = fixP a b (n : Int) := by unfold fixU; rw [if_neg (by omega)]
      rw [eu] at hc
      exact hd.asc c hc
theorem sciT_asc {a b : Int} {n : Nat} (hf : Frac a b) (hn : 1 ≤ n) : Asc (sciT a b n) := by
  have hd := sig_dig hf (D := (n : Int)) (by omega)
  have hl := sig_len hf (D := (n : Int)) (by omega)
  have hE : Dig (Txt.rjustF (strI ((sig a b (n : Int)).2.2.natAbs : Int)) 2 48) := rjustF_dig (strI_dig (by omega))
  have hi : Asc (Txt.item (sig a b (n : Int)).2.1 0) := by
    rw [item_meets ⟨by decide, by omega⟩]
    intro c hc
    rw [show c = _ from List.mem_singleton.mp hc]
    have h0 : 0 < (sig a b (n : Int)).2.1.cps.size := by have : (sig a b (n : Int)).2.1.length = (sig a b (n : Int)).2.1.cps.size := rfl; omega
    refine hd.asc _ ?_
    rw [Array.getD_eq_getD_getElem?, Array.getElem?_eq_getElem (by simpa using h0)]
    simp
  have hT : Asc (Txt.slice (sig a b (n : Int)).2.1 (some 1) none) := by
    intro c hc
    rw [show (1 : Int) = ((1 : Nat) : Int) from rfl, slice_from (by omega)] at hc
    exact hd.asc c (List.mem_of_mem_drop hc)
  have h1 : Asc (Str.ofString "-") := by unfold Asc; decide
  have h2 : Asc (Str.ofString "") := by unfold Asc; decide
  have h3 : Asc (Str.ofString ".") := by unfold Asc; decide
  have h4 : Asc (Str.ofString "e-") := by unfold Asc; decide
  have h5 : Asc (Str.ofString "e+") := by unfold Asc; decide
  unfold sciT
  refine Asc.append (Asc.append ?_ (by split <;> assumption)) hE.asc
  split
  · exact Asc.append (Asc.append (Asc.append (by split <;> assumption) hi) h3) hT
  · exact Asc.append (by split <;> assumption) hi
theorem fresh_P23 : True := by
  w_top off
  exact trivial
open Classical in
noncomputable def eNow (D : Int) (ys : List Num) : Bool := if chFixed D ys then false else true
open Classical in
noncomputable def fNow (D : Int) (ys : List Num) : Int := if chFixed D ys then (chAcc D ys).2.2.1 else (chAcc D ys).1 - 1
theorem specialT_frac {a b : Int} (hb : 0 < b) : specialT (.pr a b) = none := by unfold specialT; simp [hb]
theorem now_one {D : Int} {ys : List Num} {x : Num} (h1 : 1 ≤ D) (h2 : D ≤ 15) (hy : ∀ z ∈ ys, z.fracOk) (hx : x.fracOk) :
    (101 ∈ (formT (formOf D ys).1 (formOf D ys).2 x).cps.toList ↔ eNow D ys = true) ∧ figs (formT (formOf D ys).1 (formOf D ys).2 x) = fNow D ys := by
  cases x with
  | na => exact hx.elim
  | pr a b =>
    replace hx : Frac a b := hx
    obtain ⟨c1, c2, p1, p2⟩ := chAcc_bounds h1 h2 hy
    unfold formOf eNow fNow
    split
    · dsimp only
      have ht : formT (Str.ofString "fixed") (chAcc D ys).2.2.1 (.pr a b) = fixT a b (chAcc D ys).2.2.1 := by unfold formT; rw [specialT_frac hx.pos]; dsimp only; rw [if_pos rfl]
      rw [ht]
      obtain ⟨n, hn⟩ := Int.eq_ofNat_of_zero_le p1
      rw [hn]
      obtain ⟨u, v⟩ := fixed_facts (a := a) (n := n) hx.pos
      exact ⟨⟨fun h => (u h).elim, fun h => by cases h⟩, v⟩
    · dsimp only
      have ht : formT (Str.ofString "scientific") (chAcc D ys).1 (.pr a b) = sciT a b (chAcc D ys).1 := by unfold formT; rw [specialT_frac hx.pos]; dsimp only; rw [if_neg sci_ne]
      rw [ht]
      obtain ⟨n, hn⟩ := Int.eq_ofNat_of_zero_le (Int.le_trans (by decide) c1)
      rw [hn]
      obtain ⟨u, v⟩ := sci_facts (n := n) hx (by omega)
      exact ⟨⟨fun _ => rfl, fun _ => u⟩, v⟩
theorem oneT_frac {D : Int} {x : Num} (hx : x.frac = true) : oneT D x = formT (formOf D [x]).1 (formOf D [x]).2 x := by
  unfold oneT
  rw [List.filter_cons_of_pos hx]
  rfl
/-- the figures behind the point that one alone has -/
noncomputable def pl (D : Int) : Num → Int
  | .na => 0
  | .pr a b => mP a b D
theorem places_fold {D : Int} : ∀ (ys : List Num) (c : Int × Int × Int × Int), (∀ z ∈ ys, z.fracOk) → (ys.foldl (chStep D) c).2.2.1 = ys.foldl (fun p x => pmax p (pl D x)) c.2.2.1
  | [], _, _ => rfl
  | x :: r, c, h => by
    rw [List.foldl_cons, List.foldl_cons, places_fold r _ fun z hz => h z (List.mem_cons_of_mem _ hz)]
    cases x with
    | na => exact (h _ List.mem_cons_self).elim
    | pr a b => rfl
theorem fold_pmax_ge {D : Int} : ∀ (ys : List Num) (p : Int), p ≤ ys.foldl (fun p x => pmax p (pl D x)) p ∧ ∀ x ∈ ys, pl D x ≤ ys.foldl (fun p x => pmax p (pl D x)) p
  | [], p => ⟨Int.le_refl _, fun _ h => nomatch h⟩
  | x :: r, p => by
    obtain ⟨a, b⟩ := fold_pmax_ge r (pmax p (pl D x))
    rw [List.foldl_cons]
    refine ⟨Int.le_trans (le_pmax_l _ _) a, fun z hz => ?_⟩
    rcases List.mem_cons.mp hz with rfl | hz
    · exact Int.le_trans (le_pmax_r _ _) a
    · exact b z hz
theorem fold_pmax_is {D : Int} : ∀ (ys : List Num) (p : Int), ys.foldl (fun p x => pmax p (pl D x)) p = p ∨ ∃ x ∈ ys, ys.foldl (fun p x => pmax p (pl D x)) p = pl D x
  | [], p => .inl rfl
  | x :: r, p => by
    rw [List.foldl_cons]
    rcases fold_pmax_is r (pmax p (pl D x)) with h | ⟨z, hz, h⟩
    · rw [h]
      unfold pmax
      split
      · exact .inr ⟨x, List.mem_cons_self, rfl⟩
      · exact .inl rfl
    · exact .inr ⟨z, List.mem_cons_of_mem _ hz, h⟩
theorem pl_nn {D : Int} {x : Num} (h1 : 1 ≤ D) (h2 : D ≤ 15) (hx : x.fracOk) : 0 ≤ pl D x := by
  cases x with
  | na => exact hx.elim
  | pr a b => exact (mP_bounds (show Frac a b from hx) h1 h2).1
theorem places_ge {D : Int} {ys : List Num} (hy : ∀ z ∈ ys, z.fracOk) {x : Num} (hx : x ∈ ys) : pl D x ≤ (chAcc D ys).2.2.1 := by
  unfold chAcc
  rw [places_fold ys _ hy]
  exact (fold_pmax_ge ys _).2 x hx
theorem places_is {D : Int} {ys : List Num} (h1 : 1 ≤ D) (h2 : D ≤ 15) (hy : ∀ z ∈ ys, z.fracOk) (hne : ys ≠ []) : ∃ x ∈ ys, (chAcc D ys).2.2.1 = pl D x := by
  unfold chAcc
  rw [places_fold ys _ hy]
  rcases fold_pmax_is (D := D) ys 0 with h | h
  · obtain ⟨x, hx⟩ : ∃ x, x ∈ ys := by cases ys with | nil => exact (hne rfl).elim | cons x r => exact ⟨x, List.mem_cons_self⟩
    have a := (fold_pmax_ge (D := D) ys 0).2 x hx
    have b := pl_nn h1 h2 (hy x hx)
    dsimp only
    exact ⟨x, hx, by omega⟩
  · exact h
theorem places_alone {D : Int} {x : Num} (h1 : 1 ≤ D) (h2 : D ≤ 15) (hx : x.fracOk) : (chAcc D [x]).2.2.1 = pl D x := by
  obtain ⟨z, hz, e⟩ := places_is (ys := [x]) h1 h2 (fun z hz => by rw [List.mem_singleton.mp hz]; exact hx) (by simp)
  rw [List.mem_singleton.mp hz] at e
  exact e
/-- has a text no exponent -/
noncomputable def noE (t : Str) : Bool := !decide (101 ∈ t.cps.toList)
theorem fracOk_frac {x : Num} (h : x.fracOk) : x.frac = true := by
  cases x with
  | na => exact h.elim
  | pr a b => simpa [Num.frac] using (show Frac a b from h).pos
theorem alone_one {D : Int} {x : Num} (h1 : 1 ≤ D) (h2 : D ≤ 15) (hx : x.fracOk) (h : noE (oneT D x) = true) : figs (oneT D x) = pl D x := by
  have hx1 : ∀ z ∈ [x], z.fracOk := fun z hz => by rw [List.mem_singleton.mp hz]; exact hx
  obtain ⟨a, b⟩ := now_one (ys := [x]) h1 h2 hx1 hx
  rw [oneT_frac (fracOk_frac hx)] at h ⊢
  rw [b]
  have : eNow D [x] = false := by
    cases e : eNow D [x] with
    | false => rfl
    | true => simp [noE, a.mpr e] at h
  unfold eNow at this
  unfold fNow
  split at this
  · rename_i hc
    rw [if_pos hc, places_alone h1 h2 hx]
  · cases this
/-- the figures of those that have no exponent alone -/
noncomputable def fixedOnes (D : Int) (ys : List Num) : List Int := ((ys.map (oneT D)).filter noE).map figs
theorem fixedOnes_le {D : Int} {ys : List Num} (h1 : 1 ≤ D) (h2 : D ≤ 15) (hy : ∀ z ∈ ys, z.fracOk) : ∀ f ∈ fixedOnes D ys, f ≤ (chAcc D ys).2.2.1 := by
  intro f hf
  obtain ⟨t, ht, rfl⟩ := List.mem_map.mp hf
  obtain ⟨ht, hn⟩ := List.mem_filter.mp ht
  obtain ⟨x, hx, rfl⟩ := List.mem_map.mp ht
  rw [alone_one h1 h2 (hy x hx) hn]
  exact places_ge hy hx
theorem filter_full {α : Type} {p : α → Bool} {l : List α} (h : (l.filter p).length = l.length) : ∀ x ∈ l, p x = true := List.filter_eq_self.mp (List.Sublist.eq_of_length List.filter_sublist h)
theorem fixedOnes_all {D : Int} {ys : List Num} (h1 : 1 ≤ D) (h2 : D ≤ 15) (hy : ∀ z ∈ ys, z.fracOk) (hne : ys ≠ []) (hl : (fixedOnes D ys).length = ys.length) : (chAcc D ys).2.2.1 ∈ fixedOnes D ys := by
  unfold fixedOnes at hl
  rw [List.length_map] at hl
  have hall := filter_full (p := noE) (l := ys.map (oneT D)) (by rw [hl, List.length_map])
  obtain ⟨x, hx, e⟩ := places_is (D := D) h1 h2 hy hne
  have ht : oneT D x ∈ ys.map (oneT D) := List.mem_map_of_mem hx
  have hn := hall _ ht
  rw [e, ← alone_one h1 h2 (hy x hx) hn]
  exact List.mem_map_of_mem (List.mem_filter.mpr ⟨ht, hn⟩)
theorem special_asc {x : Num} {t : Str} (h : specialT x = some t) : Asc t := by
  have h1 : Asc (Str.ofString "NA") := by unfold Asc; decide
  have h2 : Asc (Str.ofString "NaN") := by unfold Asc; decide
  have h3 : Asc (Str.ofString "Inf") := by unfold Asc; decide
  have h4 : Asc (Str.ofString "-Inf") := by unfold Asc; decide
  cases x with
  | na => cases h; exact h1
  | pr a b =>
    unfold specialT at h
    dsimp only at h
    split at h
    · cases h
    · split at h
      · cases h; exact h2
      · split at h
        · cases h; exact h3
        · cases h; exact h4
theorem formT_asc {D : Int} {ys : List Num} {x : Num} (h1 : 1 ≤ D) (h2 : D ≤ 15) (hy : ∀ z ∈ ys, z.fracOk) (hx : x.law) : Asc (formT (formOf D ys).1 (formOf D ys).2 x) := by
  cases hs : specialT x with
  | some t => have e : formT (formOf D ys).1 (formOf D ys).2 x = t := by unfold formT; rw [hs]
              rw [e]; exact special_asc hs
  | none =>
    cases x with
    | na => cases hs
    | pr a b =>
      have hf : Frac a b := by
        rcases hx with h | ⟨h, h'⟩
        · exact h
        · unfold specialT at hs
          subst h
          dsimp only at hs
          rw [if_neg (by decide)] at hs
          (repeat' split at hs) <;> cases hs
      obtain ⟨c1, c2, p1, p2⟩ := chAcc_bounds h1 h2 hy
      unfold formOf
      split
      · dsimp only
        have ht : formT (Str.ofString "fixed") (chAcc D ys).2.2.1 (.pr a b) = fixT a b (chAcc D ys).2.2.1 := by unfold formT; rw [hs]; dsimp only; rw [if_pos rfl]
        rw [ht]
        obtain ⟨n, hn⟩ := Int.eq_ofNat_of_zero_le p1
        rw [hn]
        exact fixT_asc hf.pos
      · dsimp only
        have ht : formT (Str.ofString "scientific") (chAcc D ys).1 (.pr a b) = sciT a b (chAcc D ys).1 := by unfold formT; rw [hs]; dsimp only; rw [if_neg sci_ne]
        rw [ht]
        obtain ⟨n, hn⟩ := Int.eq_ofNat_of_zero_le (Int.le_trans (by decide) c1)
        rw [hn]
        exact sciT_asc hf (by omega)
theorem commonT_ok {D : Int} {xs : List Num} (h1 : 1 ≤ D) (h2 : D ≤ 15) (hx : ∀ x ∈ xs, x.law) : ∀ t ∈ commonT D xs, PyData.strOk t = true := by
  intro t ht
  obtain ⟨x, hm, rfl⟩ := List.mem_map.mp ht
  exact (formT_asc h1 h2 (frac_fracOk fun z hz => (hx z hz).ok) (hx x hm)).strOk
theorem fresh_P24 : True := by
  w_top off
  exact trivial
theorem TxtsAt.append {a b : List Value} {x y : List Str} (h : TxtsAt a x) (h' : TxtsAt b y) : TxtsAt (a ++ b) (x ++ y) := by
  induction h with
  | nil => exact h'
  | cons _ ih => exact .cons ih
theorem TxtsAt.reverse {a : List Value} {x : List Str} (h : TxtsAt a x) : TxtsAt a.reverse x.reverse := by
  induction h with
  | nil => exact .nil
  | @cons t y vs ys _ ih =>
    rw [List.reverse_cons, List.reverse_cons]
    exact ih.append (.cons .nil)
theorem NumsIn.append {news : List (Addr × Obj)} {a b : List Value} {x y : List Num} (h : NumsIn news a x) (h' : NumsIn news b y) : NumsIn news (a ++ b) (x ++ y) := by
  induction h with
  | nil => exact h'
  | cons z _ ih => exact .cons z ih
theorem NumsIn.reverse {news : List (Addr × Obj)} {a : List Value} {x : List Num} (h : NumsIn news a x) : NumsIn news a.reverse x.reverse := by
  induction h with
  | nil => exact .nil
  | @cons v y vs ys z _ ih =>
    rw [List.reverse_cons, List.reverse_cons]
    exact ih.append (.cons z .nil)
theorem TxtsAt.strs {a : List Value} {x : List Str} (h : TxtsAt a x) : CarriedAll a (x.map PyData.str) := by
  induction h with
  | nil => exact .nil
  | cons _ ih => exact .cons (.str _ _) ih
theorem ks_canLayAll0 : ∀ ns : List Str, (∀ t ∈ ns, PyData.strOk t = true) → PyData.canLayAll0 (ns.map PyData.str) = true
  | [], _ => rfl
  | _ :: r, h => by simp [PyData.canLayAll0, PyData.canLay0, ks_canLayAll0 r fun t ht => h t (List.mem_cons_of_mem _ ht), h]
theorem ks_depthAll : ∀ ns : List Str, PyData.depthAll (ns.map PyData.str) = 0
  | [] => rfl
  | _ :: r => by simp [PyData.depthAll, PyData.depth, ks_depthAll r]
theorem ks_shaped (ns : List Str) (h : ∀ t ∈ ns, PyData.strOk t = true) : SeqAt.shaped (.list (ns.map PyData.str)) = true := by
  simp [SeqAt.shaped, PyData.canLay0, PyData.depth, ks_canLayAll0 ns h, ks_depthAll]
theorem ks_sameAll : ∀ ns ms : List Str, PySem.Spec.sameAll (ns.map PyData.str) (ms.map PyData.str) = decide (ns = ms)
  | [], [] => by simp [PySem.Spec.sameAll]
  | [], _ :: _ => by simp [PySem.Spec.sameAll]
  | _ :: _, [] => by simp [PySem.Spec.sameAll]
  | a :: r, b :: t => by
    simp only [List.map_cons, PySem.Spec.sameAll, PyProof.V.same_str, ks_sameAll r t]
    by_cases h : a = b <;> by_cases h' : r = t <;> simp [h, h']
section
variable {prog : Program} {w : World} {A : Around} {E : Value → Shared → Prop} {s : Shared} {h₀ : Heap} {L l a b : Addr} {m : Str → Option Value} {news : List (Addr × Obj)} {vs ws : List Value} {xs : List Str} {n k : Nat} {i : Int} {value slice : PySem.Expr} {vk : Value} {ops : List Value} {Q : Value → Shared → Prop}
theorem r_ne_txts (N : News h₀ L s.heap news) (ha : (a, W.listOf vs.toArray n) ∈ news) (hb : (b, W.listOf ws.toArray k) ∈ news) (hi : TxtsAt vs xs) (hj : TxtsAt ws xs) (ho : ∀ t ∈ xs, PyData.strOk t = true) (hu : A.units + 64 < cLine) (h : Q (.bool false) s) :
    wpAny (model prog w) A (compareOp .NotEq (.ref a) (.ref b)) Q E s :=
  ne_dataH_same (reads_newData (N.isList ha) hi.strs) (reads_newData (N.isList hb) hj.strs) (ks_shaped _ ho) (ks_shaped _ ho) hu (SeqAt.noMix_of_shape (.list .str) rfl _ _ (list_map_has fun _ => rfl) (list_map_has fun _ => rfl)) (by
    rw [show PySem.Spec.same (.list (xs.map PyData.str)) (.list (xs.map PyData.str)) = decide (xs = xs) from ks_sameAll xs xs]
    simpa using h)
theorem r_lenl (N : News h₀ L s.heap news) (hl : (l, W.listOf vs.toArray n) ∈ news) (e : (vs.length : Int) = i) (hz : vs.length ≤ 10000) (h : Q (.int i (s.toks + 1)) { s with toks := s.toks + 1 + 1 }) : wpAny (model prog w) A (call (.builtin "len") [.ref l]) Q E s := by
  subst e
  exact len_list (N.isList hl) (by rw [List.size_toArray]; omega) h
theorem r_revl (F : Fr h₀ L s.heap m) (N : News h₀ L s.heap news) (hl : (l, W.listOf vs.toArray n) ∈ news) (pk : IsPart vk (some (-1))) (hz : vs.length ≤ 10000)
    (h : ∀ D h', Fr h₀ L h' m → News h₀ L h' ((D, W.listOf vs.reverse.toArray 0) :: news) → (∀ p ∈ news, p.1 < D) → Q (.ref D) { s with heap := h' })
    (hs : subscripted slice false (.ref l) (.ref s.heap.objs.size) = operate ops (getItem (.ref l) (.ref s.heap.objs.size))) (ht : ∀ r, letTemporaryGo value (.ref l) r = pure ()) :
    wpAny (model prog w) A (subscriptTail value slice (.ref l) (.ref s.heap.objs.size)) Q E { s with heap := s.heap.push { cls := .type "slice", data := .fields #[.none, .none, vk] } } :=
  krv_lit F N (N.isList hl) pk (by simp) h hs ht (by rw [List.size_toArray, sizeLine_eq]; omega)
end
theorem lines_29 : True := by
  k_with "ROOM" => (((try dsimp only [lawA, ktrTop, Around.deeper, Around.in1]); omega))
  k_with "TXTS" => (with_reducible assumption)
  k_with "compareOp NotEq ref ref" => ((k_here; (with_reducible show wpAny _ _ (compareOp CmpOp.NotEq (Value.ref _) (Value.ref _)) _ _ _); k_dflt (refine' r_ne_txts (by k_asm) (by k_mem) (by k_mem) (by walk_at "TXTS") (by walk_at "TXTS") (by with_reducible assumption) (by walk_at "ROOM") ?_); k_whole))
  k_with "call builtin:len" => ((k_here; (with_reducible show wpAny _ _ (call (Value.builtin _) [Value.ref _]) _ _ _); refine' r_lenl (by k_asm) (by k_mem) (by with_reducible assumption) (by walk_at "FEW") ?_; k_whole))
  k_with "subscriptTail Name Slice ref ref" => ((k_here; (with_reducible show wpAny _ _ (subscriptTail _ (PySem.Expr.Slice none none (some _) _) (Value.ref _) (Value.ref _)) _ _ _); k_dflt (refine' r_revl (by k_asm) (by k_asm) (by k_mem) (by exact IsPart.int _ _) (by walk_at "FEW") ?_ (by with_unfolding_all rfl) (by kmk_pure)); intro D' h' F' N' l1; (try k_lt l1)))
  exact trivial
section
variable {w : World} {loose : List Str} {mean : ExcName → Option Value} {mg mb : Str → Option Value} {dp un : Nat} {gd : Option (List Code)} {outer : List Env} {A₀ : Around} {base h₀ : Heap} {L fa : Addr} {cdv : Value} {s : Shared} {Q : Flow → Shared → Prop} {E : Value → Shared → Prop} {m0 : Str → Option Value}
  {news : List (Addr × Obj)} {R WL : Addr} {ys ts : List Value} {nR nW : Nat} {od orow ow : Obj} {xs : List Num} {D k : Int} {td tm : Tok}
set_option maxHeartbeats 40000000 in
theorem law_S4 (hA : LawAt w loose mean mg mb dp un outer A₀ base h₀) (hF : Fr h₀ L s.heap (fun y => if y = Str.ofString "many" then some (.int k tm) else m0 y)) (hN : News h₀ L s.heap news) (hS : LawSt L news R ys nR WL ts nW od orow ow xs D k td)
    (hnext : ∀ h' tk', Fr h₀ L h' (fun y => if y = Str.ofString "many" then some (.int k tm) else m0 y) → News h₀ L h' news → Q .next { s with heap := h', toks := tk' }) :
    wpAny (model PR w) (lawA dp un gd L fa cdv outer) (execs ((lawRec.body.drop 5).take 1) (lawE L fa cdv)) Q E s := by
  obtain ⟨hB', hK, hT, hdp, hun⟩ := hA
  obtain ⟨sr, sw, sd, srr, sww, dd, dr, dw, hnum, htx, hlaw, hlen, hfew, h1, h2⟩ := hS
  have hyl : ys.length = xs.length := hnum.length
  have htl : ts.length = xs.length := by rw [htx.length, commonT_length]
  have hrl : (ts.length : Int) = k := by rw [htl]; exact hlen
  have hrev : TxtsAt ts.reverse (commonT D xs.reverse) := by rw [commonT_rev]; exact htx.reverse
  have hnr : NumsIn news ys.reverse xs.reverse := hnum.reverse
  have hokr : ∀ x ∈ xs.reverse, x.ok := fun x hx => (hlaw x (List.mem_reverse.mp hx)).ok
  have hor := commonT_ok h1 h2 (xs := xs.reverse) fun x hx => hlaw x (List.mem_reverse.mp hx)
  clear hlaw
  dsimp only [lawRec, recOf, List.drop, List.take]
  k_steps
  · rename (k ≠ k) => hkk
    exact absurd rfl hkk
  · exact hnext _ _ (by assumption) (cb_drop (by with_reducible assumption) (by walk_at "SUBL"))
end
theorem fresh_P25 : True := by
  w_top off
  exact trivial
theorem r_item {prog : Program} {w : World} {A : Around} {E : Value → Shared → Prop} {s : Shared} {h₀ : Heap} {L l : Addr} {news : List (Addr × Obj)} {vs : List Value} {n : Nat} {i : Int} {u : Tok} {v : Value} {value slice : PySem.Expr} {Q : Value → Shared → Prop}
    (N : News h₀ L s.heap news) (hl : (l, W.listOf vs.toArray n) ∈ news) (h0 : 0 ≤ i) (h1 : i < 10000) (hx : vs[i.toNat]? = some v) (h : Q v s)
    (hs : subscripted slice false (.ref l) (.int i u) = operate [.ref l, .int i u] (getItem (.ref l) (.int i u))) : wpAny (model prog w) A (subscriptTail value slice (.ref l) (.int i u)) Q E s :=
  item_litK (N.isList hl) h0 (by omega) hx h hs
theorem lines_30 : True := by
  k_with "subscriptTail" => ((k_here; (with_reducible show wpAny _ _ (subscriptTail _ _ (Value.ref _) (Value.int _ _)) _ _ _); k_dflt (refine' r_item (by k_asm) (by k_mem) (by omega) (by omega) (by with_reducible assumption) ?_ (by with_unfolding_all rfl)); k_whole))
  k_with "subscriptTail Name Name ref int" => ((k_here; (with_reducible show wpAny _ _ (subscriptTail _ _ (Value.ref _) (Value.int _ _)) _ _ _); k_dflt (refine' r_item (by k_asm) (by k_mem) (by omega) (by omega) (by with_reducible assumption) ?_ (by with_unfolding_all rfl)); k_whole))
  exact trivial
/-- is the number at a place a fraction -/
noncomputable def fr (xs : List Num) (i : Nat) : Bool := match xs[i]? with | some x => x.frac | none => false
noncomputable def spots (xs : List Num) (i : Nat) : List Nat := (List.range i).filter (fr xs)
noncomputable def spotsI (xs : List Num) (i : Nat) : List Int := (spots xs i).map Int.ofNat
theorem spots_yes {xs : List Num} {i : Nat} (h : fr xs i = true) : spotsI xs (i + 1) = spotsI xs i ++ [(i : Int)] := by
  unfold spotsI spots
  rw [List.range_succ, List.filter_append, List.map_append]
  simp [h]
theorem spots_no {xs : List Num} {i : Nat} (h : fr xs i = false) : spotsI xs (i + 1) = spotsI xs i := by
  unfold spotsI spots
  rw [List.range_succ, List.filter_append, List.map_append]
  simp [h]
theorem ints_snoc {vs : List Value} {ns : List Int} (h : IntsAre vs ns) (n : Int) (t : Tok) : IntsAre (vs ++ [.int n t]) (ns ++ [n]) := h.append (.cons n t .nil)
section
variable {w : World} {loose : List Str} {mean : ExcName → Option Value} {mg mb : Str → Option Value} {dp un : Nat} {gd : Option (List Code)} {outer : List Env} {A₀ : Around} {base h₀ : Heap} {L fa : Addr} {cdv : Value} {s : Shared} {Q : Flow → Shared → Prop} {E : Value → Shared → Prop} {m0 : Str → Option Value}
  {news : List (Addr × Obj)} {R WL : Addr} {ys ts : List Value} {nR nW : Nat} {od orow ow : Obj} {xs : List Num} {D k : Int} {td tm : Tok}
set_option maxHeartbeats 40000000 in
theorem law_S5 (hA : LawAt w loose mean mg mb dp un outer A₀ base h₀) (hF : Fr h₀ L s.heap (fun y => if y = Str.ofString "many" then some (.int k tm) else m0 y)) (hN : News h₀ L s.heap news) (hS : LawSt L news R ys nR WL ts nW od orow ow xs D k td)
    (hnext : ∀ h' tk', Fr h₀ L h' (fun y => if y = Str.ofString "many" then some (.int k tm) else m0 y) → News h₀ L h' news → Q .next { s with heap := h', toks := tk' }) :
    wpAny (model PR w) (lawA dp un gd L fa cdv outer) (execs ((lawRec.body.drop 6).take 1) (lawE L fa cdv)) Q E s := by
  obtain ⟨hB', hK, hT, hdp, hun⟩ := hA
  obtain ⟨sr, sw, sd, srr, sww, dd, dr, dw, hnum, htx, hlaw, hlen, hfew, h1, h2⟩ := hS
  have hyl : ys.length = xs.length := hnum.length
  have htl : ts.length = xs.length := by rw [htx.length, commonT_length]
  have hrev : TxtsAt (ts ++ ts) (commonT D (xs ++ xs)) := by rw [commonT_twice]; exact htx.append htx
  have hnr : NumsIn news (ys ++ ys) (xs ++ xs) := hnum.append hnum
  have hlaw2 : ∀ x ∈ xs ++ xs, x.law := fun x hx => (List.mem_append.mp hx).elim (hlaw x) (hlaw x)
  have hokr : ∀ x ∈ xs ++ xs, x.ok := fun x hx => (hlaw2 x hx).ok
  have hor := commonT_ok h1 h2 hlaw2
  clear hlaw hlaw2
  dsimp only [lawRec, recOf, List.drop, List.take]
  k_steps
  exact hnext _ _ (by assumption) (cb_drop (by with_reducible assumption) (by walk_at "SUBL"))
set_option maxHeartbeats 40000000 in
theorem law_S6 (hA : LawAt w loose mean mg mb dp un outer A₀ base h₀) (hF : Fr h₀ L s.heap (fun y => if y = Str.ofString "many" then some (.int k tm) else m0 y)) (hN : News h₀ L s.heap news) (hS : LawSt L news R ys nR WL ts nW od orow ow xs D k td)
    (hnext : ∀ h' tk' Z zs nZ, Fr h₀ L h' (fun y => if y = Str.ofString "fractions" then some (.ref Z) else if y = Str.ofString "many" then some (.int k tm) else m0 y) → News h₀ L h' ((Z, W.listOf zs.toArray nZ) :: news) → IntsAre zs (spotsI xs xs.length) → (∀ p ∈ news, p.1 ≠ Z) → Q .next { s with heap := h', toks := tk' }) :
    wpAny (model PR w) (lawA dp un gd L fa cdv outer) (execs ((lawRec.body.drop 7).take 1) (lawE L fa cdv)) Q E s := by
  obtain ⟨hB', hK, hT, hdp, hun⟩ := hA
  obtain ⟨sr, sw, sd, srr, sww, dd, dr, dw, hnum, htx, hlaw, hlen, hfew, h1, h2⟩ := hS
  have hyl : ys.length = xs.length := hnum.length
  dsimp only [lawRec, recOf, List.drop, List.take]
  k_steps
  unfold Paused
  rename Fr _ _ _ _ => F1
  rename News _ _ _ _ => N1
  rename IsRange _ _ _ _ _ _ _ _ => hr
  refine LCt.CompSrcT.range (n := k.toNat) rfl F1 N1 hr (range_small (by omega) (by omega)) (by rw [rangeSize_nat]; simp) (by rw [sizeLine_eq]; omega) fun gh => ?_
  refine' comp_invT (fun i zs nw => nw = news ∧ IntsAre zs (spotsI xs i)) ?wT ?wF _ _ _ _ (Nat.zero_add _) ⟨rfl, .nil⟩
  case wT =>
    rintro i zs nw v J oJ C oC Z m₂ h tk E' hin ⟨rfl, hzs⟩ hv T
    obtain ⟨hC, hx, F, N, off, ne1, ne2, ne3⟩ := T
    clear F1 N1 hr
    obtain ⟨tv, hv⟩ := hv
    rw [Int.zero_add] at hv
    subst hv
    obtain ⟨x, hxi⟩ : ∃ x, xs[i]? = some x := ⟨_, List.getElem?_eq_getElem (by omega)⟩
    obtain ⟨y, hyi⟩ : ∃ y, ys[i]? = some y := ⟨_, List.getElem?_eq_getElem (by omega)⟩
    obtain ⟨x', hx', hin'⟩ := hnum.get hyi
    obtain rfl : x' = x := by rw [hx'] at hxi; exact Option.some.inj hxi
    have hyi' : ys[(i : Int).toNat]? = some y := by simpa using hyi
    cases x' with
    | na =>
      have hfr : fr xs i = false := by unfold fr; rw [hxi]; rfl
      cases hin'
      k_steps
      unfold Paused
      exact LCg.CompEnd.intro (by assumption) (by with_reducible assumption) _ (fun p hp => hp) off trivial ⟨rfl, by rw [spots_no hfr]; exact hzs⟩
    | pr p q =>
      obtain ⟨ad, t5, t6, hv', hm⟩ := hin'
      subst hv'
      k_steps
      all_goals unfold Paused
      · have hfr : fr xs i = true := by unfold fr; rw [hxi]; simpa [Num.frac] using ‹0 < q›
        exact LCg.CompEnd.intro (by assumption) (by with_reducible assumption) _ (fun p hp => hp) off trivial ⟨rfl, by rw [spots_yes hfr]; exact ints_snoc hzs _ _⟩
      · have hfr : fr xs i = false := by unfold fr; rw [hxi]; simpa [Num.frac] using ‹¬ 0 < q›
        exact LCg.CompEnd.intro (by assumption) (by with_reducible assumption) _ (fun p hp => hp) off trivial ⟨rfl, by rw [spots_no hfr]; exact hzs⟩
  case wF =>
    rintro zs nw ⟨rfl, hzs⟩
    clear F1 N1 hr
    unfold LCg.FinA
    intro Z h tk F N o1
    dsimp only at F N
    k_steps
    exact hnext _ _ Z zs _ F N (by rw [show xs.length = k.toNat by omega]; exact hzs) (off1_ne o1)
end
theorem fresh_P26 : True := by
  w_top off
  exact trivial
section
variable {prog : Program} {w : World} {A : Around} {E : Value → Shared → Prop} {s : Shared} {env : Env} {h₀ : Heap} {x : Str} {body : List Stmt} {Q : Flow → Shared → Prop}
/-- a for over a range from nought: what the turns keep and what they turn -/
theorem for_range {σ : Type} {r : Addr} {b₀ : Int} {t₁ t₂ t₃ : Tok} {n : Nat} {m₀ : Str → Option Value} {news : List (Addr × Obj)} (ps : σ → List (Str × Value)) (stored : List Str) (P : Nat → σ → Prop) (c₀ : σ)
    (hh : A.handled = none) (hr : IsRange s.heap r 0 b₀ 1 t₁ t₂ t₃) (hsmall : Builtin.Range.small 0 b₀ 1 = true) (hn : Builtin.Range.rangeSize 0 b₀ 1 = (n : Int)) (F : Fr h₀ env.locals s.heap m₀) (N : News h₀ env.locals s.heap news)
    (hk : ∀ p ∈ ps c₀, m₀ p.1 = some p.2) (hp : P 0 c₀)
    (turn : ∀ i t c (u : Str → Option Value) h tk nw, i < n → P i c → (∀ p ∈ news, p ∈ nw) → Fr h₀ env.locals h (fun y => if y = x then some (.int (i : Int) t) else kstB (fun z => if stored.contains z then u z else m₀ z) (ps c) y) → News h₀ env.locals h nw →
      wpAny (model prog w) A (execs body env) (ForPost h₀ env.locals nw ps stored m₀ (P (i + 1)) { s with heap := h, toks := tk } Q) E { s with heap := h, toks := tk })
    (done : ∀ c (u : Str → Option Value) h tk, P n c → Fr h₀ env.locals h (kstB (fun z => if stored.contains z then u z else m₀ z) (ps c)) → News h₀ env.locals h news → Q .next { s with heap := h, toks := tk }) :
    wpAny (model prog w) A (pyIter (.ref r)) (fun it s₂ => LoopAtV prog w A h₀ env x body Q E it s₂) E s := by
  refine tbr_invG (fun i m₁ nx => nx = news ∧ ∃ c, (∀ p ∈ ps c, m₁ p.1 = some p.2) ∧ (∀ z, (∀ p ∈ ps c, z ≠ p.1) → stored.contains z = false → m₁ z = m₀ z) ∧ P i c) hh hr hsmall hn F N ⟨rfl, c₀, hk, fun _ _ _ => rfl, hp⟩ ?_ ?_
  · rintro i v t m₁ nx h tk own hv hoff ⟨rfl, c, h1, h2, hp'⟩ F₁ N₁
    have hv' : i < n ∧ v = (i : Int) := by
      unfold rangeKs at hv
      simp only [List.getElem?_map, Option.map_eq_some_iff] at hv
      obtain ⟨a, ha, rfl⟩ := hv
      obtain ⟨hl, rfl⟩ := List.getElem?_eq_some_iff.mp ha
      simp only [List.length_range] at hl
      simp [hl]
    obtain ⟨hin, rfl⟩ := hv'
    have em := kst_is h1 h2
    rw [em] at F₁
    refine wpAny_mono (turn i t c m₁ h tk _ hin hp' (fun p hp => List.mem_append.mpr (.inl hp)) F₁ N₁) (fun f s₂ q => ?_) fun _ _ e => e
    have fin : ForEnd h₀ env.locals (nx ++ own) ps stored m₀ (P (i + 1)) { s with heap := h, toks := tk } s₂ → TbEnd h₀ env.locals (fun m' nx' => nx' = nx ∧ ∃ c, (∀ p ∈ ps c, m' p.1 = some p.2) ∧ (∀ z, (∀ p ∈ ps c, z ≠ p.1) → stored.contains z = false → m' z = m₀ z) ∧ P (i + 1) c) own { s with heap := h, toks := tk } s₂ := by
      rintro ⟨c', h', tk', m', news', rfl, F', N', hl', hk', hr', hp'⟩
      exact ⟨h', tk', m', news', nx, rfl, F', N', fun p hp => hl' p (List.mem_append.mpr (.inl hp)), fun p hp => hl' p (List.mem_append.mpr (.inr hp)), hoff, rfl, c', hk', hr', hp'⟩
    cases f with
    | ret v => exact q
    | brk => exact q
    | next => exact fin q
    | cont => exact fin q
  · rintro m₁ nx h tk ⟨rfl, c, h1, h2, hp'⟩ F₁ N₁
    have em := kst_is h1 h2
    rw [em] at F₁
    exact done c m₁ h tk hp' F₁ N₁
end
theorem spots_any {xs : List Num} {i n : Nat} (h : i < n) : (spotsI xs n).any (· == (i : Int)) = fr xs i := by
  rw [Bool.eq_iff_iff, List.any_eq_true]
  unfold spotsI spots
  constructor
  · rintro ⟨j, hj, e⟩
    obtain ⟨k, hk, rfl⟩ := List.mem_map.mp hj
    have : k = i := by
      have := eq_of_beq e
      exact Int.ofNat.inj this
    subst this
    exact (List.mem_filter.mp hk).2
  · intro hf
    exact ⟨(i : Int), List.mem_map.mpr ⟨i, List.mem_filter.mpr ⟨List.mem_range.mpr h, hf⟩, rfl⟩, by simp⟩
theorem TxtsAt.get {vs : List Value} {xs : List Str} (h : TxtsAt vs xs) : ∀ {i : Nat} {x : Str}, xs[i]? = some x → ∃ t, vs[i]? = some (.str x t) := by
  induction h with
  | nil => intro i x h; cases h
  | cons _ ih =>
    intro i x h
    cases i with
    | zero => cases h; exact ⟨_, rfl⟩
    | succ i => exact ih h
theorem LawSt.mono {L : Addr} {news nw : List (Addr × Obj)} {R : Addr} {ys : List Value} {nR : Nat} {WL : Addr} {ts : List Value} {nW : Nat} {od orow ow : Obj} {xs : List Num} {D k : Int} {td : Tok} (h : LawSt L news R ys nR WL ts nW od orow ow xs D k td) (hs : ∀ p ∈ news, p ∈ nw) :
    LawSt L nw R ys nR WL ts nW od orow ow xs D k td := ⟨hs _ h.row, hs _ h.words, hs _ h.cd, hs _ h.cr, hs _ h.cw, h.dd, h.dr, h.dw, h.nums.mono hs, h.txts, h.law, h.len, h.few, h.lo, h.hi⟩
section
variable {prog : Program} {w : World} {A : Around} {E : Value → Shared → Prop} {s : Shared} {h₀ : Heap} {L l : Addr} {news : List (Addr × Obj)} {vs : List Value} {ns : List Int} {n : Nat} {i : Int} {u : Tok} {Q : Value → Shared → Prop}
theorem r_isin (N : News h₀ L s.heap news) (hl : (l, W.listOf vs.toArray n) ∈ news) (hi : IntsAre vs ns) (hm : ns.any (· == i) = true) (h : Q (.bool false) s) : wpAny (model prog w) A (compareOp .NotIn (.int i u) (.ref l)) Q E s :=
  notin_list_ints (N.isList hl) hi (by rw [hm]; exact h)
theorem r_isnt (N : News h₀ L s.heap news) (hl : (l, W.listOf vs.toArray n) ∈ news) (hi : IntsAre vs ns) (hm : ns.any (· == i) = false) (h : Q (.bool true) s) : wpAny (model prog w) A (compareOp .NotIn (.int i u) (.ref l)) Q E s :=
  notin_list_ints (N.isList hl) hi (by rw [hm]; exact h)
end
theorem fr1 {h₀ h : Heap} {L : Addr} {m : Str → Option Value} {a : Str} {v : Value} (F : Fr h₀ L h m) (e : m a = some v) : Fr h₀ L h (fun y => if y = a then some v else m y) := by
  rw [← map1 e]; exact F
theorem fr1_back {h₀ h : Heap} {L : Addr} {m : Str → Option Value} {a : Str} {v : Value} (F : Fr h₀ L h (fun y => if y = a then some v else m y)) (e : m a = some v) : Fr h₀ L h m := by
  rw [map1 e]; exact F
theorem execs_two {M : Model} {A : Around} {E : Value → Shared → Prop} {s : Shared} {env : Env} {body : List Stmt} {Q : Flow → Shared → Prop} {J : Shared → Prop}
    (first : wpAny M A (execs (body.take 1) env) (fun f s' => match f with | .next => J s' | f => Q f s') E s) (rest : ∀ s', J s' → wpAny M A (execs (body.drop 1) env) Q E s') : wpAny M A (execs body env) Q E s := by
  refine execs_cut 1 (wpAny_mono first (fun f s' q => ?_) fun _ _ e => e)
  cases f with
  | next => exact rest s' q
  | ret v => exact q
  | brk => exact q
  | cont => exact q
theorem one_txts {D : Int} {x : Num} {t : Tok} : TxtsAt [.str (oneT D x) t] (commonT D [x]) := .cons .nil
theorem lines_31 : True := by
  k_with "compareOp NotIn int ref" => ((k_here; (with_reducible show wpAny _ _ (compareOp CmpOp.NotIn (Value.int _ _) (Value.ref _)) _ _ _); k_dflt (first
    | (refine' r_isin (by k_asm) (by k_mem) (by with_reducible assumption) (by with_reducible assumption) ?_)
    | (refine' r_isnt (by k_asm) (by k_mem) (by with_reducible assumption) (by with_reducible assumption) ?_)); k_whole))
  k_with "exec For Name Call cons nil" => ((k_here; (rename Fr _ _ _ _ => lF'); (with_unfolding_all refine' For_invVF lF' (by exact rfl) (by exact rfl) ?_)))
  k_with "FEW" => (exact Nat.le_of_ble_eq_true rfl)
  k_with "TXTS" => (exact one_txts)
  k_with "call ref" => ((k_here; k_dflt (refine' Gives.go (by k_asm) (by k_asm) (by k_asm) (by k_asm) (by k_asm) (by rfl) (number_gives _ _ _ _ _ _ (by first | with_reducible assumption | exact NumIn.mono (by with_reducible assumption) (by walk_at "SUBL")) (by with_reducible assumption) (by walk_at "SM") (by walk_at "SM")) (by walk_at "ROOM") (by walk_at "ROOM") ?_; intro v' n' h' tk' F' N' P'; obtain ⟨⟨t', hv'⟩, hn'⟩ := P'; subst hv' hn'; (try dsimp only); (try k_sweep))))
  exact trivial
section
variable {w : World} {loose : List Str} {mean : ExcName → Option Value} {mg mb : Str → Option Value} {dp un : Nat} {gd : Option (List Code)} {outer : List Env} {A₀ : Around} {base h₀ : Heap} {L fa : Addr} {cdv : Value} {s : Shared} {Q : Flow → Shared → Prop} {E : Value → Shared → Prop} {m0 : Str → Option Value}
  {news : List (Addr × Obj)} {R WL Z : Addr} {ys ts zs : List Value} {nR nW nZ : Nat} {od orow ow : Obj} {xs : List Num} {D k : Int} {td tm : Tok}
set_option maxHeartbeats 40000000 in
theorem law_S7 (hA : LawAt w loose mean mg mb dp un outer A₀ base h₀) (hF : Fr h₀ L s.heap (fun y => if y = Str.ofString "fractions" then some (.ref Z) else if y = Str.ofString "many" then some (.int k tm) else m0 y)) (hN : News h₀ L s.heap news) (hS : LawSt L news R ys nR WL ts nW od orow ow xs D k td)
    (hZ : (Z, W.listOf zs.toArray nZ) ∈ news) (hzs : IntsAre zs (spotsI xs xs.length))
    (hE : PassesOwn (model PR w) (lawA dp un gd L fa cdv outer) (lawE L fa cdv) E)
    (hnext : ∀ h' tk' (m1 : Str → Option Value), Fr h₀ L h' (fun y => if y = Str.ofString "fractions" then some (.ref Z) else m1 y) → News h₀ L h' news → Q .next { s with heap := h', toks := tk' }) :
    wpAny (model PR w) (lawA dp un gd L fa cdv outer) (execs ((lawRec.body.drop 8).take 1) (lawE L fa cdv)) Q E s := by
  obtain ⟨hB', hK, hT, hdp, hun⟩ := hA
  have hk := hS.len
  have hfew := hS.few
  dsimp only [lawRec, recOf, List.drop, List.take]
  k_steps
  unfold Paused
  rename Fr _ _ _ _ => F1
  rename News _ _ _ _ => N1
  rename IsRange _ _ _ _ _ _ _ _ => hr
  refine' for_range (n := k.toNat) (fun _ : Unit => [("fractions", .ref Z), ("many", .int k tm)]) ["spot", "due"] (fun _ _ => True) () rfl hr (range_small (by omega) (by omega)) (by rw [rangeSize_nat]; simp) F1 N1 ?wK trivial ?wT ?wD
  case wK => kst_all
  case wT =>
    rintro i t ⟨⟩ u h tk nw hin - hsub F N
    clear F1 N1 hr
    obtain ⟨sr, sw, sd, srr, sww, dd, dr, dw, hnum, htx, hlaw, hlen, hfew, h1, h2⟩ := hS.mono hsub
    have hZ' := hsub _ hZ
    clear hsub hS hZ
    obtain ⟨x, hxi⟩ : ∃ x, xs[i]? = some x := ⟨_, List.getElem?_eq_getElem (by omega)⟩
    have hyl : ys.length = xs.length := hnum.length
    obtain ⟨y, hyi⟩ : ∃ y, ys[i]? = some y := ⟨_, List.getElem?_eq_getElem (by omega)⟩
    obtain ⟨x', hx', hin'⟩ := hnum.get hyi
    obtain rfl : x' = x := by rw [hx'] at hxi; exact Option.some.inj hxi
    have hyi' : ys[(i : Int).toNat]? = some y := by simpa using hyi
    have hlx : x'.law := hlaw x' (List.mem_of_getElem? hxi)
    have hokx : x'.ok := hlx.ok
    have hone : NumsIn nw [y] [x'] := NumsIn.one hin'
    have hok1 : ∀ z ∈ [x'], z.ok := fun z hz => by rw [List.mem_singleton.mp hz]; exact hokx
    have hor := commonT_ok h1 h2 (xs := [x']) fun z hz => by rw [List.mem_singleton.mp hz]; exact hlx
    have hany := spots_any (xs := xs) (i := i) (n := xs.length) (by omega)
    have hct : (commonT D xs)[i]? = some (formT (formOf D (xs.filter Num.frac)).1 (formOf D (xs.filter Num.frac)).2 x') := by unfold commonT; rw [List.getElem?_map, hxi]; rfl
    obtain ⟨tw, hwi⟩ := htx.get hct
    have hwi' : ts[(i : Int).toNat]? = some (.str (formT (formOf D (xs.filter Num.frac)).1 (formOf D (xs.filter Num.frac)).2 x') tw) := by simpa using hwi
    refine execs_two (J := fun s' => Paused (∃ h' tk' m', s' = { s with heap := h', toks := tk' } ∧ Fr h₀ L h' m' ∧ News h₀ L h' nw ∧ m' (Str.ofString "spot") = some (.int (i : Int) t) ∧ m' (Str.ofString "fractions") = some (.ref Z) ∧ m' (Str.ofString "many") = some (.int k tm) ∧
      (∀ z, (∀ p ∈ [(Str.ofString "fractions", Value.ref Z), (Str.ofString "many", Value.int k tm)], z ≠ p.1) → ([Str.ofString "spot", Str.ofString "due"] : List Str).contains z = false → m' z = (fun y => if y = Str.ofString "fractions" then some (.ref Z) else if y = Str.ofString "many" then some (.int k tm) else m0 y) z))) ?first ?rest
    case first =>
      dsimp only [List.take]
      by_cases hfr : fr xs i = true
      · rw [hfr] at hany
        k_steps
        unfold Paused; exact ⟨_, _, _, rfl, by assumption, by assumption, rfl, rfl, rfl, by walk_at "SAME"⟩
      · have hfr' : fr xs i = false := by simpa using hfr
        rw [hfr'] at hany
        cases x' with
        | na =>
          cases hin'
          rw [show formT (formOf D (xs.filter Num.frac)).1 (formOf D (xs.filter Num.frac)).2 .na = Str.ofString "NA" from rfl] at hwi'
          clear hct hwi
          k_steps
          unfold Paused; exact ⟨_, _, _, rfl, by assumption, cb_drop (by assumption) (by walk_at "SUBL"), rfl, rfl, rfl, by walk_at "SAME"⟩
        | pr p q =>
          obtain ⟨ad, t5, t6, hv', hm⟩ := hin'
          subst hv'
          have hq : q = 0 ∧ (p = 0 ∨ p = 1 ∨ p = -1) := by
            rcases hlx with h | h
            · exfalso
              unfold fr at hfr'
              rw [hxi] at hfr'
              simp [Num.frac, h.pos] at hfr'
            · exact h
          obtain ⟨rfl, hp⟩ := hq
          rcases hp with rfl | rfl | rfl
          · rw [show formT (formOf D (xs.filter Num.frac)).1 (formOf D (xs.filter Num.frac)).2 (.pr 0 0) = Str.ofString "NaN" by simp [formT, specialT]] at hwi'
            clear hct hwi
            k_steps
            unfold Paused; exact ⟨_, _, _, rfl, by assumption, cb_drop (by assumption) (by walk_at "SUBL"), rfl, rfl, rfl, by walk_at "SAME"⟩
          · rw [show formT (formOf D (xs.filter Num.frac)).1 (formOf D (xs.filter Num.frac)).2 (.pr 1 0) = Str.ofString "Inf" by simp [formT, specialT]] at hwi'
            clear hct hwi
            k_steps
            unfold Paused; exact ⟨_, _, _, rfl, by assumption, cb_drop (by assumption) (by walk_at "SUBL"), rfl, rfl, rfl, by walk_at "SAME"⟩
          · rw [show formT (formOf D (xs.filter Num.frac)).1 (formOf D (xs.filter Num.frac)).2 (.pr (-1) 0) = Str.ofString "-Inf" by simp [formT, specialT]] at hwi'
            clear hct hwi
            k_steps
            unfold Paused; exact ⟨_, _, _, rfl, by assumption, cb_drop (by assumption) (by walk_at "SUBL"), rfl, rfl, rfl, by walk_at "SAME"⟩
    case rest =>
      intro s' hJ
      unfold Paused at hJ
      obtain ⟨h', tk', m', rfl, F2, N2, hsp, hfz, hmz, hsame⟩ := hJ
      clear F N hct hwi hwi' hany
      have F3 := fr1 F2 hsp
      clear F2
      dsimp only [List.drop]
      k_steps
      unfold Paused
      rename Fr _ _ _ _ => F4
      refine' for_end () (fr1_back F4 hsp) ?eN ?eL ?eK hsame trivial
      case eN => assumption
      case eL => walk_at "SUBL"
      case eK =>
        intro p hp
        simp only [List.mem_cons, List.not_mem_nil, or_false] at hp
        rcases hp with rfl | rfl
        · exact hfz
        · exact hmz
  case wD =>
    rintro ⟨⟩ u h tk - F N
    clear F1 N1 hr
    k_steps
    exact hnext _ _ _ (fr1 (a := Str.ofString "fractions") (v := .ref Z) F rfl) N
end
theorem fresh_P27 : True := by
  w_top off
  exact trivial
theorem ints_at {vs : List Value} {ns : List Int} (h : IntsAre vs ns) {j : Nat} {v : Value} (hv : vs[j]? = some v) : ∃ n t, ns[j]? = some n ∧ v = .int n t := by
  have hj : j < ns.length := by rw [← h.length]; exact (List.getElem?_eq_some_iff.mp hv).1
  obtain ⟨t, ht⟩ := h.get j _ (List.getElem?_eq_getElem hj)
  exact ⟨ns[j], t, List.getElem?_eq_getElem hj, by rw [hv] at ht; exact Option.some.inj ht⟩
theorem spots_at {xs : List Num} {n j : Nat} {k : Int} (h : (spotsI xs n)[j]? = some k) : ∃ i : Nat, (spots xs n)[j]? = some i ∧ k = (i : Int) ∧ i < n ∧ fr xs i = true := by
  unfold spotsI at h
  rw [List.getElem?_map, Option.map_eq_some_iff] at h
  obtain ⟨i, hi, rfl⟩ := h
  have hm := List.mem_of_getElem? hi
  unfold spots at hm
  obtain ⟨a, b⟩ := List.mem_filter.mp hm
  exact ⟨i, hi, rfl, List.mem_range.mp a, b⟩
theorem spotsI_len (xs : List Num) (n : Nat) : (spotsI xs n).length = (spots xs n).length := List.length_map _
theorem spots_le (xs : List Num) (n : Nat) : (spots xs n).length ≤ n := by
  unfold spots
  exact Nat.le_trans (List.length_filter_le _ _) (by rw [List.length_range]; exact Nat.le_refl _)
theorem spots_pick {β : Type} (f : Num → β) (xs : List Num) : ∀ n, n ≤ xs.length → (spots xs n).filterMap ((xs.map f)[·]?) = ((xs.take n).filter Num.frac).map f
  | 0, _ => rfl
  | n + 1, h => by
    have ih := spots_pick f xs n (by omega)
    have hx : xs[n]? = some xs[n] := List.getElem?_eq_getElem (by omega)
    unfold spots at ih ⊢
    rw [List.range_succ, List.filter_append, List.filterMap_append, ih, take_succ_filter _ xs n _ hx, List.map_append]
    congr 1
    have hfr : fr xs n = xs[n].frac := by unfold fr; rw [hx]
    cases hb : xs[n].frac with
    | true => rw [List.filter_cons_of_pos (by rw [hfr, hb])]; simp [List.getElem?_eq_getElem (show n < xs.length by omega)]
    | false => rw [List.filter_cons_of_neg (by rw [hfr, hb]; simp)]; simp
theorem take_pick {α β : Type} {l : List α} {f : α → Option β} {j : Nat} {a : α} {b : β} (h : l[j]? = some a) (hf : f a = some b) : (l.take (j + 1)).filterMap f = (l.take j).filterMap f ++ [b] := by
  rw [List.take_add_one, h, List.filterMap_append]
  simp [hf]
section
variable {w : World} {loose : List Str} {mean : ExcName → Option Value} {mg mb : Str → Option Value} {dp un : Nat} {gd : Option (List Code)} {outer : List Env} {A₀ : Around} {base h₀ : Heap} {L fa : Addr} {cdv : Value} {s : Shared} {Q : Flow → Shared → Prop} {E : Value → Shared → Prop} {m0 : Str → Option Value}
  {news : List (Addr × Obj)} {R WL Z : Addr} {ys ts zs : List Value} {nR nW nZ : Nat} {od orow ow : Obj} {xs : List Num} {D k : Int} {td tm : Tok}
set_option maxHeartbeats 40000000 in
theorem law_S8 (hA : LawAt w loose mean mg mb dp un outer A₀ base h₀) (hF : Fr h₀ L s.heap (fun y => if y = Str.ofString "fractions" then some (.ref Z) else m0 y)) (hN : News h₀ L s.heap news) (hS : LawSt L news R ys nR WL ts nW od orow ow xs D k td)
    (hZ : (Z, W.listOf zs.toArray nZ) ∈ news) (hzs : IntsAre zs (spotsI xs xs.length))
    (hnext : ∀ h' tk' Bb bs nB, Fr h₀ L h' (fun y => if y = Str.ofString "bare" then some (.ref Bb) else if y = Str.ofString "fractions" then some (.ref Z) else m0 y) → News h₀ L h' ((Bb, W.listOf bs.toArray nB) :: news) → TxtsAt bs (commonT D (xs.filter Num.frac)) → Q .next { s with heap := h', toks := tk' }) :
    wpAny (model PR w) (lawA dp un gd L fa cdv outer) (execs ((lawRec.body.drop 9).take 1) (lawE L fa cdv)) Q E s := by
  obtain ⟨hB', hK, hT, hdp, hun⟩ := hA
  obtain ⟨sr, sw, sd, srr, sww, dd, dr, dw, hnum, htx, hlaw, hlen, hfew, h1, h2⟩ := hS
  have hyl : ys.length = xs.length := hnum.length
  have hzl : zs.length = (spots xs xs.length).length := by rw [hzs.length, spotsI_len]
  have hzl2 := spots_le xs xs.length
  have hsz : zs.toArray.size ≤ sizeLine := by rw [List.size_toArray, sizeLine_eq]; omega
  have hokf : ∀ x ∈ xs.filter Num.frac, x.ok := fun x hx => (hlaw x (List.mem_filter.mp hx).1).ok
  have hlf : (xs.filter Num.frac).length ≤ 10000 := Nat.le_trans (List.length_filter_le _ _) (by omega)
  dsimp only [lawRec, recOf, List.drop, List.take]
  k_steps
  unfold Paused
  rename Fr _ _ _ _ => F1
  rename News _ _ _ _ => N1
  refine LCg.CompSrc.ledger (k := nZ) rfl F1 N1 (by k_mem) hsz fun g => ?_
  refine' comp_inv (fun j us nw => nw = news ∧ NumsIn news us (((spots xs xs.length).take j).filterMap (xs[·]?))) ?wT ?wF _ _ _ _ (Nat.zero_add _) ⟨rfl, .nil⟩
  case wT =>
    rintro j us nw v J oJ C oC U m₂ h tk E' hjn ⟨rfl, hus⟩ hv T
    obtain ⟨hC, hx, F, N, off, ne1, ne2, ne3⟩ := T
    clear F1 N1
    obtain ⟨sp, tsp, hsp, rfl⟩ := ints_at hzs (j := j) (v := v) (by simpa using hv)
    obtain ⟨i, hi, rfl, hin, hfr⟩ := spots_at hsp
    obtain ⟨x, hxi⟩ : ∃ x, xs[i]? = some x := ⟨_, List.getElem?_eq_getElem hin⟩
    obtain ⟨y, hyi⟩ : ∃ y, ys[i]? = some y := ⟨_, List.getElem?_eq_getElem (by omega)⟩
    obtain ⟨x', hx', hin'⟩ := hnum.get hyi
    obtain rfl : x' = x := by rw [hx'] at hxi; exact Option.some.inj hxi
    have hyi' : ys[(i : Int).toNat]? = some y := by simpa using hyi
    k_steps
    unfold Paused
    exact LCg.CompEnd.intro (by assumption) (by with_reducible assumption) _ (fun p hp => hp) off (.inr ⟨_, by k_mem, rfl, _, rfl⟩) ⟨rfl, by rw [take_pick hi hxi]; exact hus.snoc hin'⟩
  case wF =>
    rintro us nw ⟨rfl, hus⟩
    clear F1 N1
    have hp := spots_pick id xs xs.length (Nat.le_refl _)
    rw [List.map_id, List.map_id, List.take_length] at hp
    rw [List.size_toArray, hzl, List.take_length, hp] at hus
    have hul : us.length ≤ 10000 := by rw [hus.length]; exact hlf
    unfold LCg.FinE
    intro U h tk F N o1
    try dsimp only at F N
    k_steps
    rename TxtsAt _ (commonT D (List.filter _ _)) => hts
    exact hnext _ _ _ _ _ (by assumption) (cb_drop (by with_reducible assumption) (by walk_at "SUBH")) hts
set_option maxHeartbeats 40000000 in
theorem law_S9 {Bb : Addr} {bs : List Value} {nB : Nat} (hA : LawAt w loose mean mg mb dp un outer A₀ base h₀) (hF : Fr h₀ L s.heap (fun y => if y = Str.ofString "bare" then some (.ref Bb) else if y = Str.ofString "fractions" then some (.ref Z) else m0 y)) (hN : News h₀ L s.heap news) (hS : LawSt L news R ys nR WL ts nW od orow ow xs D k td)
    (hZ : (Z, W.listOf zs.toArray nZ) ∈ news) (hzs : IntsAre zs (spotsI xs xs.length)) (hb : (Bb, W.listOf bs.toArray nB) ∈ news) (hbs : TxtsAt bs (commonT D (xs.filter Num.frac)))
    (hnext : ∀ h' tk', Fr h₀ L h' (fun y => if y = Str.ofString "bare" then some (.ref Bb) else if y = Str.ofString "fractions" then some (.ref Z) else m0 y) → News h₀ L h' news → Q .next { s with heap := h', toks := tk' }) :
    wpAny (model PR w) (lawA dp un gd L fa cdv outer) (execs ((lawRec.body.drop 10).take 1) (lawE L fa cdv)) Q E s := by
  obtain ⟨hB', hK, hT, hdp, hun⟩ := hA
  obtain ⟨sr, sw, sd, srr, sww, dd, dr, dw, hnum, htx, hlaw, hlen, hfew, h1, h2⟩ := hS
  have hzl : zs.length = (spots xs xs.length).length := by rw [hzs.length, spotsI_len]
  have hzl2 := spots_le xs xs.length
  have hsz : zs.toArray.size ≤ sizeLine := by rw [List.size_toArray, sizeLine_eq]; omega
  have hor := commonT_ok h1 h2 (xs := xs.filter Num.frac) fun x hx => hlaw x (List.mem_filter.mp hx).1
  dsimp only [lawRec, recOf, List.drop, List.take]
  k_steps
  unfold Paused
  rename Fr _ _ _ _ => F1
  rename News _ _ _ _ => N1
  refine LCg.CompSrc.ledger (k := nZ) rfl F1 N1 (by k_mem) hsz fun g => ?_
  refine' comp_inv (fun j us nw => nw = news ∧ TxtsAt us (((spots xs xs.length).take j).filterMap ((xs.map (formT (formOf D (xs.filter Num.frac)).1 (formOf D (xs.filter Num.frac)).2))[·]?))) ?wT ?wF _ _ _ _ (Nat.zero_add _) ⟨rfl, .nil⟩
  case wT =>
    rintro j us nw v J oJ C oC U m₂ h tk E' hjn ⟨rfl, hus⟩ hv T
    obtain ⟨hC, hx, F, N, off, ne1, ne2, ne3⟩ := T
    clear F1 N1
    obtain ⟨sp, tsp, hsp, rfl⟩ := ints_at hzs (j := j) (v := v) (by simpa using hv)
    obtain ⟨i, hi, rfl, hin, hfr⟩ := spots_at hsp
    obtain ⟨x, hxi⟩ : ∃ x, xs[i]? = some x := ⟨_, List.getElem?_eq_getElem hin⟩
    have hct : (xs.map (formT (formOf D (xs.filter Num.frac)).1 (formOf D (xs.filter Num.frac)).2))[i]? = some (formT (formOf D (xs.filter Num.frac)).1 (formOf D (xs.filter Num.frac)).2 x) := by rw [List.getElem?_map, hxi]; rfl
    obtain ⟨tw, hwi⟩ := htx.get hct
    have hwi' : ts[(i : Int).toNat]? = some (.str (formT (formOf D (xs.filter Num.frac)).1 (formOf D (xs.filter Num.frac)).2 x) tw) := by simpa using hwi
    k_steps
    unfold Paused
    exact LCg.CompEnd.intro (by assumption) (by with_reducible assumption) _ (fun p hp => hp) off (.inr ⟨_, by k_mem, rfl, _, rfl⟩) ⟨rfl, by rw [take_pick hi hct]; exact hus.snoc _ _⟩
  case wF =>
    rintro us nw ⟨rfl, hus⟩
    clear F1 N1
    have hp := spots_pick (formT (formOf D (xs.filter Num.frac)).1 (formOf D (xs.filter Num.frac)).2) xs xs.length (Nat.le_refl _)
    rw [List.take_length] at hp
    rw [List.size_toArray, hzl, List.take_length, hp, ← commonT_bare] at hus
    unfold LCg.FinE
    intro U h tk F N o1
    try dsimp only at F N
    k_steps
    exact hnext _ _ (by assumption) (cb_drop (by with_reducible assumption) (by walk_at "SUBL"))
end
theorem fresh_P28 : True := by
  w_top off
  exact trivial
theorem cps_len (x : Str) : x.length = x.cps.toList.length := by simp [Str.length]
theorem fixN_lt {a b : Int} {n : Nat} (hf : Frac a b) (hn : n ≤ 30) : fixN a b n < 10 ^ 80 := by
  unfold fixN
  have h3 : (a.natAbs : Int) * 10 ^ n ≤ a.natAbs * 10 ^ 30 := mul_p10_le (by omega) hn
  have h5 := hf.num
  have hb := hf.pos
  rw [Int.toNat_natCast]
  have h6 : (a.natAbs : Int) * 10 ^ n < 10 ^ 60 * b := by
    have h7 : (10 : Int) ^ 60 * 1 ≤ 10 ^ 60 * b := Int.mul_le_mul_of_nonneg_left (by omega) (by decide)
    omega
  have h4 := nw_le hb h6
  omega
theorem fixT_len {a b : Int} {n : Nat} (hf : Frac a b) (hn : n ≤ 30) : (fixT a b n).length ≤ 200 := by
  have h1 : (fixP a b n).length ≤ 150 := by
    unfold fixP
    rw [rjustF_len]
    have := wtext_len (fixN_nn (a := a) (k := (n : Int)) hf.pos) (fixN_lt hf hn)
    omega
  rw [cps_len, fixT_cps, List.length_append]
  have hm : (minusS a).length ≤ 1 := by unfold minusS; split <;> simp
  by_cases h : 0 < n
  · rw [fixU_cps h, List.length_append, List.length_cons, List.length_take, List.length_drop, ← cps_len]
    omega
  · have eu : fixU a b (n : Int) = fixP a b (n : Int) := by unfold fixU; rw [if_neg (by omega)]
    rw [eu, ← cps_len]
    omega
theorem sciT_len {a b : Int} {n : Nat} (hf : Frac a b) (h1 : 1 ≤ n) (hn : n ≤ 15) : (sciT a b n).length ≤ 200 := by
  have hl := sig_len hf (D := (n : Int)) (by omega)
  obtain ⟨he1, he2⟩ := sig_exp (D := (n : Int)) hf
  have hq3 : (strI (((sig a b n).2.2.natAbs : Nat) : Int)).length ≤ 4 := strI_len (k := 3) (by decide) (by omega)
  have hi : (Txt.item (sig a b (n : Int)).2.1 0).length = 1 := rfl
  have hT := Txt.slice_le (sig a b (n : Int)).2.1 (some 1) none
  have hR : (Txt.rjustF (strI ((sig a b (n : Int)).2.2.natAbs : Int)) 2 48).length ≤ 4 := by rw [rjustF_len]; omega
  have hs : (if (sig a b (n : Int)).1 < 0 then Str.ofString "-" else Str.ofString "").length ≤ 1 := by split <;> decide
  have hx : (if (sig a b (n : Int)).2.2 < 0 then Str.ofString "e-" else Str.ofString "e+").length ≤ 2 := by split <;> decide
  unfold sciT
  split
  · simp only [Str.length_append, hi, lit_3]
    omega
  · simp only [Str.length_append, hi]
    omega
theorem formT_len {D : Int} {ys : List Num} {x : Num} (h1 : 1 ≤ D) (h2 : D ≤ 15) (hy : ∀ z ∈ ys, z.fracOk) (hx : x.fracOk) : (formT (formOf D ys).1 (formOf D ys).2 x).length ≤ 1000 := by
  cases x with
  | na => exact hx.elim
  | pr a b =>
    replace hx : Frac a b := hx
    obtain ⟨c1, c2, p1, p2⟩ := chAcc_bounds h1 h2 hy
    unfold formOf
    split
    · dsimp only
      have ht : formT (Str.ofString "fixed") (chAcc D ys).2.2.1 (.pr a b) = fixT a b (chAcc D ys).2.2.1 := by unfold formT; rw [specialT_frac hx.pos]; dsimp only; rw [if_pos rfl]
      rw [ht]
      obtain ⟨n, hn⟩ := Int.eq_ofNat_of_zero_le p1
      rw [hn] at p2 ⊢
      exact Nat.le_trans (fixT_len hx (by omega)) (by decide)
    · dsimp only
      have ht : formT (Str.ofString "scientific") (chAcc D ys).1 (.pr a b) = sciT a b (chAcc D ys).1 := by unfold formT; rw [specialT_frac hx.pos]; dsimp only; rw [if_neg sci_ne]
      rw [ht]
      obtain ⟨n, hn⟩ := Int.eq_ofNat_of_zero_le (Int.le_trans (by decide) c1)
      rw [hn] at c1 c2 ⊢
      exact Nat.le_trans (sciT_len hx (by omega) (by omega)) (by decide)
theorem txts_at {vs : List Value} {xs : List Str} (h : TxtsAt vs xs) {j : Nat} {v : Value} (hv : vs[j]? = some v) : ∃ x t, xs[j]? = some x ∧ v = .str x t := by
  have hj : j < xs.length := by rw [← h.length]; exact (List.getElem?_eq_some_iff.mp hv).1
  obtain ⟨t, ht⟩ := h.get (List.getElem?_eq_getElem hj)
  exact ⟨xs[j], t, List.getElem?_eq_getElem hj, by rw [hv] at ht; exact Option.some.inj ht⟩
theorem ints_snoc' {vs : List Value} {ns : List Int} {n n' : Int} {t : Tok} (h : IntsAre vs ns) (e : n = n') : IntsAre (vs ++ [.int n t]) (ns ++ [n']) := by
  subst e; exact ints_snoc h n t
theorem lines_32 : True := by
  k_with "call ref" => ((k_here; k_dflt (refine' Gives.go (by k_asm) (by k_asm) (by k_asm) (by k_asm) (by k_asm) (by rfl) (fig_gives _ _ _ _ (by with_reducible assumption)) (by walk_at "ROOM") (by walk_at "ROOM") ?_; intro v' n' h' tk' F' N' P'; obtain ⟨⟨t', hv'⟩, hn'⟩ := P'; subst hv' hn'; (try dsimp only); (try k_sweep))))
  exact trivial
/-- what each text of the fractions' row shows -/
theorem bare_at {D : Int} {xs : List Num} (h1 : 1 ≤ D) (h2 : D ≤ 15) (hl : ∀ x ∈ xs, x.law) {j : Nat} {t : Str} (ht : (commonT D (xs.filter Num.frac))[j]? = some t) :
    (101 ∈ t.cps.toList ↔ eNow D (xs.filter Num.frac) = true) ∧ figs t = fNow D (xs.filter Num.frac) ∧ t.length ≤ 1000 := by
  have hy := frac_fracOk (xs := xs) fun z hz => (hl z hz).ok
  rw [commonT_bare, List.getElem?_map, Option.map_eq_some_iff] at ht
  obtain ⟨x, hx, rfl⟩ := ht
  have hx' := hy x (List.mem_of_getElem? hx)
  exact ⟨(now_one h1 h2 hy hx').1, (now_one h1 h2 hy hx').2, formT_len h1 h2 hy hx'⟩
section
variable {w : World} {loose : List Str} {mean : ExcName → Option Value} {mg mb : Str → Option Value} {dp un : Nat} {gd : Option (List Code)} {outer : List Env} {A₀ : Around} {base h₀ : Heap} {L fa : Addr} {cdv : Value} {s : Shared} {Q : Flow → Shared → Prop} {E : Value → Shared → Prop} {m0 : Str → Option Value}
  {news : List (Addr × Obj)} {R WL Z Bb : Addr} {ys ts zs bs : List Value} {nR nW nZ nB mm : Nat} {od orow ow : Obj} {xs : List Num} {D k : Int} {td tm : Tok}
set_option maxHeartbeats 40000000 in
theorem law_S10 (hA : LawAt w loose mean mg mb dp un outer A₀ base h₀) (hF : Fr h₀ L s.heap (fun y => if y = Str.ofString "bare" then some (.ref Bb) else if y = Str.ofString "fractions" then some (.ref Z) else m0 y)) (hN : News h₀ L s.heap news)
    (hb : (Bb, W.listOf bs.toArray nB) ∈ news) (hbl : (bs.length : Int) = (mm : Int)) (hfew : mm < 7)
    (hret : ∀ h' tk', (∀ b o, h₀.get? b = some o → h'.get? b = some o) → Q (.ret (.bool true)) { s with heap := h', toks := tk' })
    (hnext : ∀ h' tk', 0 < mm → Fr h₀ L h' (fun y => if y = Str.ofString "bare" then some (.ref Bb) else if y = Str.ofString "fractions" then some (.ref Z) else m0 y) → News h₀ L h' news → Q .next { s with heap := h', toks := tk' }) :
    wpAny (model PR w) (lawA dp un gd L fa cdv outer) (execs ((lawRec.body.drop 11).take 1) (lawE L fa cdv)) Q E s := by
  obtain ⟨hB', hK, hT, hdp, hun⟩ := hA
  have hb10 : bs.length ≤ 10000 := by omega
  dsimp only [lawRec, recOf, List.drop, List.take]
  k_steps
  · exact hret _ _ (Fr.keep (by assumption))
  · exact hnext _ _ (by omega) (by assumption) (by with_reducible assumption)
set_option maxHeartbeats 40000000 in
theorem law_S11 (hA : LawAt w loose mean mg mb dp un outer A₀ base h₀) (hF : Fr h₀ L s.heap (fun y => if y = Str.ofString "bare" then some (.ref Bb) else if y = Str.ofString "fractions" then some (.ref Z) else m0 y)) (hN : News h₀ L s.heap news)
    (h1 : 1 ≤ D) (h2 : D ≤ 15) (hlaw : ∀ x ∈ xs, x.law) (hb : (Bb, W.listOf bs.toArray nB) ∈ news) (hbs : TxtsAt bs (commonT D (xs.filter Num.frac))) (hbl : (bs.length : Int) = (mm : Int)) (hfew : mm < 7)
    (hnext : ∀ h' tk' X nX, Fr h₀ L h' (fun y => if y = Str.ofString "with_e" then some (.ref X) else if y = Str.ofString "bare" then some (.ref Bb) else if y = Str.ofString "fractions" then some (.ref Z) else m0 y) →
      News h₀ L h' ((X, W.listOf (List.replicate mm (Value.bool (eNow D (xs.filter Num.frac)))).toArray nX) :: news) → Q .next { s with heap := h', toks := tk' }) :
    wpAny (model PR w) (lawA dp un gd L fa cdv outer) (execs ((lawRec.body.drop 12).take 1) (lawE L fa cdv)) Q E s := by
  obtain ⟨hB', hK, hT, hdp, hun⟩ := hA
  have hsz : bs.toArray.size ≤ sizeLine := by rw [List.size_toArray, sizeLine_eq]; omega
  dsimp only [lawRec, recOf, List.drop, List.take]
  k_steps
  unfold Paused
  rename Fr _ _ _ _ => F1
  rename News _ _ _ _ => N1
  refine LCg.CompSrc.ledger (k := nB) rfl F1 N1 (by k_mem) hsz fun g => ?_
  refine' comp_inv (fun j us nw => nw = news ∧ us = List.replicate j (Value.bool (eNow D (xs.filter Num.frac)))) ?wT ?wF _ _ _ _ (Nat.zero_add _) ⟨rfl, rfl⟩
  case wT =>
    rintro j us nw v J oJ C oC U m₂ h tk E' hjn ⟨rfl, hus⟩ hv T
    obtain ⟨hC, hx, F, N, off, ne1, ne2, ne3⟩ := T
    clear F1 N1
    obtain ⟨t, tt, ht, rfl⟩ := txts_at hbs (j := j) (v := v) (by simpa using hv)
    obtain ⟨p1, p2, p3⟩ := bare_at h1 h2 hlaw ht
    cases he : eNow D (xs.filter Num.frac) with
    | true =>
      have hin : 101 ∈ t.cps.toList := p1.mpr he
      rw [he] at hus
      k_steps
      unfold Paused
      exact LCg.CompEnd.intro (by assumption) (by with_reducible assumption) _ (fun p hp => hp) off (.inr ⟨_, by k_mem, rfl, _, rfl⟩) ⟨rfl, by rw [hus, List.replicate_succ']⟩
    | false =>
      have hin : ¬ 101 ∈ t.cps.toList := fun h => by have := p1.mp h; rw [he] at this; cases this
      rw [he] at hus
      k_steps
      unfold Paused
      exact LCg.CompEnd.intro (by assumption) (by with_reducible assumption) _ (fun p hp => hp) off (.inr ⟨_, by k_mem, rfl, _, rfl⟩) ⟨rfl, by rw [hus, List.replicate_succ']⟩
  case wF =>
    rintro us nw ⟨rfl, hus⟩
    clear F1 N1
    rw [List.size_toArray, show bs.length = mm by omega] at hus
    subst hus
    unfold LCg.FinA
    intro U h tk F N o1
    try dsimp only at F N
    k_steps
    exact hnext _ _ U _ F N
set_option maxHeartbeats 40000000 in
theorem law_S12 {X : Addr} (hA : LawAt w loose mean mg mb dp un outer A₀ base h₀) (hF : Fr h₀ L s.heap (fun y => if y = Str.ofString "with_e" then some (.ref X) else if y = Str.ofString "bare" then some (.ref Bb) else if y = Str.ofString "fractions" then some (.ref Z) else m0 y)) (hN : News h₀ L s.heap news)
    (h1 : 1 ≤ D) (h2 : D ≤ 15) (hlaw : ∀ x ∈ xs, x.law) (hb : (Bb, W.listOf bs.toArray nB) ∈ news) (hbs : TxtsAt bs (commonT D (xs.filter Num.frac))) (hbl : (bs.length : Int) = (mm : Int)) (hfew : mm < 7)
    (hnext : ∀ h' tk' Y fs nY, Fr h₀ L h' (fun y => if y = Str.ofString "figures_now" then some (.ref Y) else if y = Str.ofString "with_e" then some (.ref X) else if y = Str.ofString "bare" then some (.ref Bb) else if y = Str.ofString "fractions" then some (.ref Z) else m0 y) →
      News h₀ L h' ((Y, W.listOf fs.toArray nY) :: news) → IntsAre fs (List.replicate mm (fNow D (xs.filter Num.frac))) → Q .next { s with heap := h', toks := tk' }) :
    wpAny (model PR w) (lawA dp un gd L fa cdv outer) (execs ((lawRec.body.drop 13).take 1) (lawE L fa cdv)) Q E s := by
  obtain ⟨hB', hK, hT, hdp, hun⟩ := hA
  have hsz : bs.toArray.size ≤ sizeLine := by rw [List.size_toArray, sizeLine_eq]; omega
  dsimp only [lawRec, recOf, List.drop, List.take]
  k_steps
  unfold Paused
  rename Fr _ _ _ _ => F1
  rename News _ _ _ _ => N1
  refine LCg.CompSrc.ledger (k := nB) rfl F1 N1 (by k_mem) hsz fun g => ?_
  refine' comp_inv (fun j us nw => nw = news ∧ IntsAre us (List.replicate j (fNow D (xs.filter Num.frac)))) ?wT ?wF _ _ _ _ (Nat.zero_add _) ⟨rfl, .nil⟩
  case wT =>
    rintro j us nw v J oJ C oC U m₂ h tk E' hjn ⟨rfl, hus⟩ hv T
    obtain ⟨hC, hx, F, N, off, ne1, ne2, ne3⟩ := T
    clear F1 N1
    obtain ⟨t, tt, ht, rfl⟩ := txts_at hbs (j := j) (v := v) (by simpa using hv)
    obtain ⟨p1, p2, p3⟩ := bare_at h1 h2 hlaw ht
    k_steps
    unfold Paused
    exact LCg.CompEnd.intro (by assumption) (by with_reducible assumption) _ (fun p hp => hp) off (.inr ⟨_, by k_mem, rfl, _, rfl⟩) ⟨rfl, by rw [List.replicate_succ']; exact ints_snoc' hus p2⟩
  case wF =>
    rintro us nw ⟨rfl, hus⟩
    clear F1 N1
    rw [List.size_toArray, show bs.length = mm by omega] at hus
    unfold LCg.FinA
    intro U h tk F N o1
    try dsimp only at F N
    k_steps
    exact hnext _ _ U us _ F N hus
end
theorem fresh_P29 : True := by
  w_top off
  exact trivial
theorem kb_same (e : Bool) : ∀ n : Nat, PySem.Spec.sameAll (List.replicate n (PyData.bool e)) (List.replicate n (PyData.bool e)) = true
  | 0 => by simp [PySem.Spec.sameAll]
  | n + 1 => by
    rw [List.replicate_succ]
    simp only [PySem.Spec.sameAll, kb_same e n, Bool.and_true]
    cases e <;> rfl
theorem kb_lay (e : Bool) : ∀ n : Nat, PyData.canLayAll0 (List.replicate n (PyData.bool e)) = true
  | 0 => rfl
  | n + 1 => by rw [List.replicate_succ]; simp [PyData.canLayAll0, PyData.canLay0, kb_lay e n]
theorem kb_depth (e : Bool) : ∀ n : Nat, PyData.depthAll (List.replicate n (PyData.bool e)) = 0
  | 0 => rfl
  | n + 1 => by rw [List.replicate_succ]; simp [PyData.depthAll, PyData.depth, kb_depth e n]
theorem kb_shaped (e : Bool) (n : Nat) : SeqAt.shaped (.list (List.replicate n (PyData.bool e))) = true := by
  simp [SeqAt.shaped, PyData.canLay0, PyData.depth, kb_lay, kb_depth]
theorem kb_carried (e : Bool) : ∀ n : Nat, CarriedAll (List.replicate n (Value.bool e)) (List.replicate n (PyData.bool e))
  | 0 => .nil
  | n + 1 => by rw [List.replicate_succ, List.replicate_succ]; exact .cons (.bool e) (kb_carried e n)
theorem ints_rep1 {f : Int} {t : Tok} : ∀ {n : Nat}, IntsAre (List.replicate n (Value.int f t)) (List.replicate n f)
  | 0 => .nil
  | n + 1 => by rw [List.replicate_succ, List.replicate_succ]; exact .cons f t ints_rep1
section
variable {prog : Program} {w : World} {A : Around} {E : Value → Shared → Prop} {s : Shared} {h₀ : Heap} {L l a b : Addr} {m : Str → Option Value} {news : List (Addr × Obj)} {vs ws : List Value} {ns : List Int} {n k j : Nat} {e : Bool} {v : Value} {u : Tok} {Q : Value → Shared → Prop}
theorem r_ne_bools (N : News h₀ L s.heap news) (ha : (a, W.listOf (List.replicate j (Value.bool e)).toArray n) ∈ news) (hb : (b, W.listOf (List.replicate j (Value.bool e)).toArray k) ∈ news) (hu : A.units + 64 < cLine) (h : Q (.bool false) s) :
    wpAny (model prog w) A (compareOp .NotEq (.ref a) (.ref b)) Q E s :=
  ne_dataH_same (reads_newData (N.isList ha) (kb_carried e j)) (reads_newData (N.isList hb) (kb_carried e j)) (kb_shaped e j) (kb_shaped e j) hu (by
    rw [← List.map_replicate]
    exact SeqAt.noMix_of_shape (.list .bool) rfl _ _ (list_map_has fun _ => rfl) (list_map_has fun _ => rfl)) (by
    rw [show PySem.Spec.same (.list (List.replicate j (PyData.bool e))) (.list (List.replicate j (PyData.bool e))) = true from kb_same e j]
    exact h)
theorem r_ne_ints (N : News h₀ L s.heap news) (ha : (a, W.listOf vs.toArray n) ∈ news) (hb : (b, W.listOf ws.toArray k) ∈ news) (hi : IntsAre vs ns) (hj : IntsAre ws ns) (hu : A.units + 64 < cLine) (h : Q (.bool false) s) :
    wpAny (model prog w) A (compareOp .NotEq (.ref a) (.ref b)) Q E s := ke_ne_ints (N.isList ha) (N.isList hb) hi hj hu (by simpa using h)
theorem r_mul1 (F : Fr h₀ L s.heap m) (N : News h₀ L s.heap news) (hl : (l, W.listOf [v].toArray k) ∈ news) (hz : n ≤ 100)
    (h : ∀ D h', Fr h₀ L h' m → News h₀ L h' ((D, W.listOf (List.replicate n v).toArray 0) :: news) → (∀ p ∈ news, p.1 < D) → Q (.ref D) { s with heap := h' }) : wpAny (model prog w) A (binaryOp .Mult (.ref l) (.int (n : Int) u)) Q E s :=
  KMa.mul F N (N.isList hl) (by omega) (by omega) (by simp; omega) (by simp) h
theorem r_max (F : Fr h₀ L s.heap m) (N : News h₀ L s.heap news) (hl : (l, W.listOf vs.toArray k) ∈ news) (hi : IntsAre vs ns) (hne : 0 < ns.length) (hh : A.handled = none)
    (h : ∀ h' M (t : Tok) tk, Fr h₀ L h' m → News h₀ L h' news → M ∈ ns → (∀ a, a ∈ ns → a ≤ M) → Q (.int M t) { s with heap := h', toks := tk }) : wpAny (model prog w) A (call (.builtin "max") [.ref l]) Q E s :=
  max_list_N hh F N (N.isList hl) hi hne h
end
theorem lines_33 : True := by
  k_with "compareOp NotEq ref ref" => ((k_here; (with_reducible show wpAny _ _ (compareOp CmpOp.NotEq (Value.ref _) (Value.ref _)) _ _ _); k_dflt (first
    | (refine' r_ne_bools (by k_asm) (by k_mem) (by k_mem) (by walk_at "ROOM") ?_)
    | (refine' r_ne_ints (by k_asm) (by k_mem) (by k_mem) (by with_reducible assumption) (by exact ints_rep1) (by walk_at "ROOM") ?_)); k_whole))
  k_with "binaryOp Mult ref int" => ((k_here; (with_reducible show wpAny _ _ (binaryOp Operator.Mult (Value.ref _) (Value.int _ _)) _ _ _); k_dflt (refine' r_mul1 (by k_asm) (by k_asm) (by k_mem) (by omega) ?_); k_whole; intro D' h' F' N' l1; (try k_lt l1)))
  k_with "call builtin:max" => ((k_here; (with_reducible show wpAny _ _ (call (Value.builtin _) [Value.ref _]) _ _ _); k_dflt (refine' r_max (by k_asm) (by k_asm) (by k_mem) (by with_reducible assumption) (by exact Nat.succ_pos _) (by exact rfl) ?_); k_whole; intro h' M' t' tk' F' N' hM1 hM2))
  exact trivial
section
variable {w : World} {loose : List Str} {mean : ExcName → Option Value} {mg mb : Str → Option Value} {dp un : Nat} {gd : Option (List Code)} {outer : List Env} {A₀ : Around} {base h₀ : Heap} {L fa : Addr} {cdv : Value} {s : Shared} {Q : Flow → Shared → Prop} {E : Value → Shared → Prop} {m0 : Str → Option Value}
  {news : List (Addr × Obj)} {R WL Z Bb X Y : Addr} {ys ts zs bs fs : List Value} {nR nW nZ nB nX nY mm : Nat} {od orow ow : Obj} {xs : List Num} {D k f : Int} {td tm : Tok} {e : Bool}
set_option maxHeartbeats 40000000 in
theorem law_S13 (hA : LawAt w loose mean mg mb dp un outer A₀ base h₀) (hF : Fr h₀ L s.heap (fun y => if y = Str.ofString "figures_now" then some (.ref Y) else if y = Str.ofString "with_e" then some (.ref X) else if y = Str.ofString "bare" then some (.ref Bb) else if y = Str.ofString "fractions" then some (.ref Z) else m0 y)) (hN : News h₀ L s.heap news)
    (hb : (Bb, W.listOf bs.toArray nB) ∈ news) (hX : (X, W.listOf (List.replicate mm (Value.bool e)).toArray nX) ∈ news) (hY : (Y, W.listOf fs.toArray nY) ∈ news) (hfs : IntsAre fs (List.replicate mm f)) (hbl : (bs.length : Int) = (mm : Int)) (hfew : mm < 7) (hpos : 0 < mm)
    (hnext : ∀ h' tk', Fr h₀ L h' (fun y => if y = Str.ofString "figures_now" then some (.ref Y) else if y = Str.ofString "with_e" then some (.ref X) else if y = Str.ofString "bare" then some (.ref Bb) else if y = Str.ofString "fractions" then some (.ref Z) else m0 y) → News h₀ L h' news → Q .next { s with heap := h', toks := tk' }) :
    wpAny (model PR w) (lawA dp un gd L fa cdv outer) (execs ((lawRec.body.drop 14).take 1) (lawE L fa cdv)) Q E s := by
  obtain ⟨hB', hK, hT, hdp, hun⟩ := hA
  have hb10 : bs.length ≤ 10000 := by omega
  have hx0 : (List.replicate mm (Value.bool e))[(0 : Int).toNat]? = some (.bool e) := by rw [show (0 : Int).toNat = 0 from rfl, List.getElem?_replicate, if_pos hpos]
  obtain ⟨tf, hf0⟩ := hfs.get 0 f (by rw [List.getElem?_replicate, if_pos hpos])
  have hf0' : fs[(0 : Int).toNat]? = some (.int f tf) := hf0
  dsimp only [lawRec, recOf, List.drop, List.take]
  k_steps
  exact hnext _ _ (by assumption) (cb_drop (by with_reducible assumption) (by walk_at "SUBL"))
end
theorem fresh_P30 : True := by
  w_top off
  exact trivial
theorem one_len {D : Int} {x : Num} (h1 : 1 ≤ D) (h2 : D ≤ 15) (hx : x.fracOk) : (oneT D x).length ≤ 1000 := by
  rw [oneT_frac (fracOk_frac hx)]
  exact formT_len h1 h2 (fun z hz => by rw [List.mem_singleton.mp hz]; exact hx) hx
section
variable {w : World} {loose : List Str} {mean : ExcName → Option Value} {mg mb : Str → Option Value} {dp un : Nat} {gd : Option (List Code)} {outer : List Env} {A₀ : Around} {base h₀ : Heap} {L fa : Addr} {cdv : Value} {s : Shared} {Q : Flow → Shared → Prop} {E : Value → Shared → Prop} {m0 : Str → Option Value}
  {news : List (Addr × Obj)} {R WL Z Bb X Y : Addr} {ys ts zs bs fs : List Value} {nR nW nZ nB nX nY mm : Nat} {od orow ow : Obj} {xs : List Num} {D k f : Int} {td tm : Tok} {e : Bool}
set_option maxHeartbeats 40000000 in
theorem law_S14 (hA : LawAt w loose mean mg mb dp un outer A₀ base h₀) (hF : Fr h₀ L s.heap (fun y => if y = Str.ofString "figures_now" then some (.ref Y) else if y = Str.ofString "with_e" then some (.ref X) else if y = Str.ofString "bare" then some (.ref Bb) else if y = Str.ofString "fractions" then some (.ref Z) else m0 y)) (hN : News h₀ L s.heap news)
    (hS : LawSt L news R ys nR WL ts nW od orow ow xs D k td) (hZ : (Z, W.listOf zs.toArray nZ) ∈ news) (hzs : IntsAre zs (spotsI xs xs.length))
    (hX : (X, W.listOf (List.replicate mm (Value.bool e)).toArray nX) ∈ news) (hY : (Y, W.listOf fs.toArray nY) ∈ news) (hfs : IntsAre fs (List.replicate mm f)) (hmm : (xs.filter Num.frac).length = mm) (hpos : 0 < mm)
    (he : e = eNow D (xs.filter Num.frac)) (hf : f = fNow D (xs.filter Num.frac))
    (hret : ∀ h' tk', (∀ b o, h₀.get? b = some o → h'.get? b = some o) → Q (.ret (.bool true)) { s with heap := h', toks := tk' }) :
    wpAny (model PR w) (lawA dp un gd L fa cdv outer) (execs ((lawRec.body.drop 15)) (lawE L fa cdv)) Q E s := by
  obtain ⟨hB', hK, hT, hdp, hun⟩ := hA
  obtain ⟨sr, sw, sd, srr, sww, dd, dr, dw, hnum, htx, hlaw, hlen, hfew, h1, h2⟩ := hS
  have hx0 : (List.replicate mm (Value.bool e))[(0 : Int).toNat]? = some (.bool e) := by rw [show (0 : Int).toNat = 0 from rfl, List.getElem?_replicate, if_pos hpos]
  obtain ⟨tf, hf0⟩ := hfs.get 0 f (by rw [List.getElem?_replicate, if_pos hpos])
  have hf0' : fs[(0 : Int).toNat]? = some (.int f tf) := hf0
  have hyl : ys.length = xs.length := hnum.length
  have hzl : zs.length = (spots xs xs.length).length := by rw [hzs.length, spotsI_len]
  have hzl2 := spots_le xs xs.length
  have hsz : zs.toArray.size ≤ sizeLine := by rw [List.size_toArray, sizeLine_eq]; omega
  have hfr := frac_fracOk (xs := xs) fun z hz => (hlaw z hz).ok
  have hmf : mm ≤ xs.length := by rw [← hmm]; exact List.length_filter_le _ _
  dsimp only [lawRec, recOf, List.drop, List.take]
  cases e with
  | true =>
    k_steps
    exact hret _ _ (Fr.keep (by assumption))
  | false =>
    have hP : f = (chAcc D (xs.filter Num.frac)).2.2.1 := by
      unfold eNow at he
      unfold fNow at hf
      split at he
      · rename_i hc
        rw [if_pos hc] at hf
        exact hf
      · cases he
    have hfo1 := fixedOnes_le (D := D) h1 h2 hfr
    have hfo2 := fixedOnes_all (D := D) h1 h2 hfr (fun h0 => by rw [h0] at hmm; simp at hmm; omega)
    rw [← hP] at hfo1 hfo2
    rw [hmm] at hfo2
    clear he hf hP
    k_steps
    unfold Paused
    rename Fr _ _ _ _ => F1
    rename News _ _ _ _ => N1
    refine LCg.CompSrc.ledger (k := nZ) rfl F1 N1 (by k_mem) hsz fun g => ?_
    refine' comp_inv (fun j us nw => nw = news ∧ TxtsAt us ((((spots xs xs.length).take j).filterMap (xs[·]?)).map (oneT D))) ?wT ?wF _ _ _ _ (Nat.zero_add _) ⟨rfl, .nil⟩
    case wT =>
      rintro j us nw v J oJ C oC U m₂ h tk E' hjn ⟨rfl, hus⟩ hv T
      obtain ⟨hC, hx, F, N, off, ne1, ne2, ne3⟩ := T
      clear F1 N1
      obtain ⟨sp, tsp, hsp, rfl⟩ := ints_at hzs (j := j) (v := v) (by simpa using hv)
      obtain ⟨i, hi, rfl, hin, hfri⟩ := spots_at hsp
      obtain ⟨x, hxi⟩ : ∃ x, xs[i]? = some x := ⟨_, List.getElem?_eq_getElem hin⟩
      obtain ⟨y, hyi⟩ : ∃ y, ys[i]? = some y := ⟨_, List.getElem?_eq_getElem (by omega)⟩
      obtain ⟨x', hx', hin'⟩ := hnum.get hyi
      obtain rfl : x' = x := by rw [hx'] at hxi; exact Option.some.inj hxi
      have hyi' : ys[(i : Int).toNat]? = some y := by simpa using hyi
      have hokx : x'.ok := (hlaw x' (List.mem_of_getElem? hxi)).ok
      k_steps
      unfold Paused
      exact LCg.CompEnd.intro (by assumption) (by with_reducible assumption) _ (fun p hp => hp) off (.inr ⟨_, by k_mem, rfl, _, rfl⟩) ⟨rfl, by rw [take_pick hi hxi, List.map_append]; exact hus.snoc _ _⟩
    case wF =>
      rintro us nw ⟨rfl, hus⟩
      clear F1 N1
      have hp := spots_pick id xs xs.length (Nat.le_refl _)
      rw [List.map_id, List.map_id, List.take_length] at hp
      rw [List.size_toArray, hzl, List.take_length, hp] at hus
      have hul : (us.length : Int) = (mm : Int) := by rw [hus.length, List.length_map, hmm]
      have hul2 : us.length ≤ 10000 := by omega
      have husz : us.toArray.size ≤ sizeLine := by rw [List.size_toArray, sizeLine_eq]; omega
      unfold LCg.FinA
      intro U h tk F N o1
      try dsimp only at F N
      k_steps
      unfold Paused
      rename Fr _ _ _ _ => F1
      rename News _ _ _ _ => N1
      refine LCt.CompSrcT.ledger (k := us.length) rfl F1 N1 (by k_mem) husz fun g => ?_
      refine' comp_invT (fun j vs nw' => nw' = (U, LCg.lst us) :: nw ∧ IntsAre vs (((((xs.filter Num.frac).map (oneT D)).take j).filter noE).map figs)) ?vT ?vF _ _ _ _ (Nat.zero_add _) ⟨rfl, .nil⟩
      case vT =>
        rintro j vs nw' v J oJ C oC V m₂ h tk E' hjn ⟨rfl, hvs⟩ hv T
        obtain ⟨hC, hx, F, N, off, ne1, ne2, ne3⟩ := T
        clear F1 N1
        obtain ⟨t, tt, ht, rfl⟩ := txts_at hus (j := j) (v := v) (by simpa using hv)
        have htl : t.length ≤ 1000 := by
          rw [List.getElem?_map, Option.map_eq_some_iff] at ht
          obtain ⟨x3, hx3, e3⟩ := ht
          rw [← e3]
          exact one_len h1 h2 (hfr x3 (List.mem_of_getElem? hx3))
        by_cases hin : 101 ∈ t.cps.toList
        · have hno : noE t = false := by unfold noE; simp [hin]
          k_steps
          unfold Paused
          exact LCg.CompEnd.intro (by assumption) (by with_reducible assumption) _ (fun p hp => hp) off (.inr ⟨_, by k_mem, rfl, _, rfl⟩) ⟨rfl, by rw [take_filter_neg ht hno]; exact hvs⟩
        · have hno : noE t = true := by unfold noE; simp [hin]
          k_steps
          unfold Paused
          exact LCg.CompEnd.intro (by assumption) (by with_reducible assumption) _ (fun p hp => hp) off (.inr ⟨_, by k_mem, rfl, _, rfl⟩) ⟨rfl, by rw [take_filter_pos ht hno, List.map_append]; exact ints_snoc hvs _ _⟩
      case vF =>
        rintro vs nw' ⟨rfl, hvs⟩
        clear F1 N1
        rw [List.size_toArray, show us.length = ((xs.filter Num.frac).map (oneT D)).length from hus.length, List.take_length] at hvs
        change IntsAre vs (fixedOnes D (xs.filter Num.frac)) at hvs
        have hfl : (fixedOnes D (xs.filter Num.frac)).length ≤ mm := by
          unfold fixedOnes
          rw [List.length_map]
          refine Nat.le_trans (List.length_filter_le _ _) ?_
          rw [List.length_map, hmm]
          exact Nat.le_refl _
        generalize fixedOnes D (xs.filter Num.frac) = fo at hvs hfo1 hfo2 hfl
        unfold LCg.FinA
        intro V h tk F N o2
        try dsimp only at F N
        have hvl : (vs.length : Int) = (fo.length : Int) := by rw [hvs.length]
        have hvl2 : vs.length ≤ 10000 := by omega
        cases fo with
        | nil =>
          k_steps
          all_goals exact hret _ _ (Fr.keep (by assumption))
        | cons f0 r =>
          k_steps
          · rename (f ≠ _) => hne
            rename (_ ∈ f0 :: r) => hM1
            rename (∀ a, a ∈ f0 :: r → a ≤ _) => hM2
            rename (((f0 :: r).length : Int) = (mm : Int)) => hl
            have q1 := hM2 f (hfo2 (by omega))
            have q2 := hfo1 _ hM1
            exact absurd (Int.le_antisymm q1 q2) hne
          all_goals first
            | (rename (decide (_ :: _ = []) = true) => hc
               simp at hc)
            | (rename (_ ∈ f0 :: r) => hM1
               rw [decide_eq_true (hfo1 _ hM1)]
               exact hret _ _ (Fr.keep (by assumption)))
end
theorem fresh_P31 : True := by
  w_top off
  exact trivial
theorem execs_step (k : Nat) {M : Model} {A : Around} {E : Value → Shared → Prop} {s : Shared} {env : Env} {body : List Stmt} {Q : Flow → Shared → Prop}
    (h : wpAny M A (execs ((body.drop k).take 1) env) (fun f s' => match f with | .next => wpAny M A (execs (body.drop (k + 1)) env) Q E s' | f => Q f s') E s) : wpAny M A (execs (body.drop k) env) Q E s := by
  refine execs_cut 1 ?_
  rw [List.drop_drop]
  exact h
section
variable {w : World} {loose : List Str} {mean : ExcName → Option Value} {mg mb : Str → Option Value} {dp un : Nat} {gd : Option (List Code)} {outer : List Env} {A₀ : Around} {base h₀ : Heap} {L fa : Addr} {cdv : Value} {s : Shared} {Q : Flow → Shared → Prop} {E : Value → Shared → Prop} {m0 : Str → Option Value}
  {news : List (Addr × Obj)} {R WL Z Bb X Y : Addr} {ys ts zs bs fs : List Value} {nR nW nZ nB nX nY mm : Nat} {od orow ow : Obj} {xs : List Num} {D k f : Int} {td tm : Tok} {e : Bool}
theorem sub1 {p : Addr × Obj} {l : List (Addr × Obj)} : ∀ q ∈ l, q ∈ p :: l := fun _ h => List.mem_cons_of_mem _ h
/-- from the bare texts on -/
theorem law_D (hA : LawAt w loose mean mg mb dp un outer A₀ base h₀) (hF : Fr h₀ L s.heap (fun y => if y = Str.ofString "bare" then some (.ref Bb) else if y = Str.ofString "fractions" then some (.ref Z) else m0 y)) (hN : News h₀ L s.heap news) (hS : LawSt L news R ys nR WL ts nW od orow ow xs D k td)
    (hZ : (Z, W.listOf zs.toArray nZ) ∈ news) (hzs : IntsAre zs (spotsI xs xs.length)) (hb : (Bb, W.listOf bs.toArray nB) ∈ news) (hbs : TxtsAt bs (commonT D (xs.filter Num.frac)))
    (hret : ∀ h' tk', (∀ b o, h₀.get? b = some o → h'.get? b = some o) → Q (.ret (.bool true)) { s with heap := h', toks := tk' }) :
    wpAny (model PR w) (lawA dp un gd L fa cdv outer) (execs (lawRec.body.drop 10) (lawE L fa cdv)) Q E s := by
  have hbl : (bs.length : Int) = (((xs.filter Num.frac).length : Nat) : Int) := by rw [hbs.length, commonT_length]
  have hfew : (xs.filter Num.frac).length < 7 := Nat.lt_of_le_of_lt (List.length_filter_le _ _) hS.few
  refine execs_step 10 (law_S9 hA hF hN hS hZ hzs hb hbs fun h1 t1 F1 N1 => ?_)
  refine execs_step 11 (law_S10 hA F1 N1 hb hbl hfew (fun h t q => hret h t q) fun h2 t2 hpos F2 N2 => ?_)
  refine execs_step 12 (law_S11 hA F2 N2 hS.lo hS.hi hS.law hb hbs hbl hfew fun h3 t3 X nX F3 N3 => ?_)
  refine execs_step 13 (law_S12 hA F3 N3 hS.lo hS.hi hS.law (sub1 _ hb) hbs hbl hfew fun h4 t4 Y fs nY F4 N4 hfs => ?_)
  refine execs_step 14 (law_S13 hA F4 N4 (sub1 _ (sub1 _ hb)) (sub1 _ List.mem_cons_self) List.mem_cons_self hfs hbl hfew hpos fun h5 t5 F5 N5 => ?_)
  exact law_S14 hA F5 N5 (hS.mono fun p hp => sub1 _ (sub1 _ hp)) (sub1 _ (sub1 _ hZ)) hzs (sub1 _ List.mem_cons_self) List.mem_cons_self hfs rfl hpos rfl rfl fun h t q => hret h t q
theorem law_B (hA : LawAt w loose mean mg mb dp un outer A₀ base h₀) (hE : PassesOwn (model PR w) (lawA dp un gd L fa cdv outer) (lawE L fa cdv) E) (hF : Fr h₀ L s.heap (fun y => if y = Str.ofString "many" then some (.int k tm) else m0 y)) (hN : News h₀ L s.heap news) (hS : LawSt L news R ys nR WL ts nW od orow ow xs D k td)
    (hret : ∀ h' tk', (∀ b o, h₀.get? b = some o → h'.get? b = some o) → Q (.ret (.bool true)) { s with heap := h', toks := tk' }) :
    wpAny (model PR w) (lawA dp un gd L fa cdv outer) (execs (lawRec.body.drop 5) (lawE L fa cdv)) Q E s := by
  refine execs_step 5 (law_S4 hA hF hN hS fun h1 t1 F1 N1 => ?_)
  refine execs_step 6 (law_S5 hA F1 N1 hS fun h2 t2 F2 N2 => ?_)
  refine execs_step 7 (law_S6 hA F2 N2 hS fun h3 t3 Z zs nZ F3 N3 hzs hne => ?_)
  have hS3 := hS.mono (nw := (Z, W.listOf zs.toArray nZ) :: news) sub1
  refine execs_step 8 (law_S7 hA F3 N3 hS3 List.mem_cons_self hzs hE fun h4 t4 m1 F4 N4 => ?_)
  refine execs_step 9 (law_S8 hA F4 N4 hS3 List.mem_cons_self hzs fun h5 t5 Bb bs nB F5 N5 hbs => ?_)
  exact law_D hA F5 N5 (hS3.mono sub1) (sub1 _ List.mem_cons_self) hzs List.mem_cons_self hbs fun h t q => hret h t q
set_option maxHeartbeats 40000000 in
theorem law_S1 (hA : LawAt w loose mean mg mb dp un outer A₀ base h₀) {c1 c2 c3 c4 : Obj} {v1 v2 v3 v4 : Option Value} {l : Addr} {vs : List Value} {ns : List Int}
    (hF : Fr h₀ L s.heap (fun y => if y = Str.ofString "script" then some (.ref l) else m0 y))
    (hN : News h₀ L s.heap [(L + 1 + 1 + 1 + 1, c4), (L + 1 + 1 + 1, c3), (L + 1 + 1, c2), (L + 1, c1)])
    (d1 : c1.data = .cell v1) (d2 : c2.data = .cell v2) (d3 : c3.data = .cell v3) (d4 : c4.data = .cell v4) (hl : h₀.IsList l vs.toArray) (hi : IntsAre vs ns) (hz : ns.length ≤ 63)
    (hnext : ∀ h' tk' B I D1 ob od nb c nd tm t0 td (vs' ws : List Value) (m1 : Str → Option Value), Fr h₀ L h' (fun y => if y = Str.ofString "many" then some (.int (seedV (ns.take 40) 7) tm) else m1 y) →
      News h₀ L h' [(B, W.listOf #[.ref I, .int 0 t0] nb), (I, W.listOf vs'.toArray c), (D1, W.listOf ws.toArray nd), (L + 1 + 1 + 1 + 1, c4), (L + 1 + 1 + 1, c3), (L + 1 + 1, od), (L + 1, ob)] → D1 < I → I < B → L + 1 + 1 + 1 + 1 < D1 →
      ob.data = .cell (some (.ref B)) → od.data = .cell (some (.int (1 + seedV (ns.take 40).tail 15) td)) → IntsAre vs' (ns.take 40).tail.tail → Q .next { s with heap := h', toks := tk' }) :
    wpAny (model PR w) (lawA dp un gd L fa cdv outer) (execs (lawRec.body.take 3) (lawE L fa cdv)) Q E s := by
  obtain ⟨hB', hK, hT, hdp, hun⟩ := hA
  have hz2 : (ns.take 40).length ≤ 1000 := by rw [List.length_take]; omega
  dsimp only [lawRec, recOf, List.take]
  k_steps
  rename (_ < _ ∧ _ < _ ∧ _ < _ ∧ _ < _ ∧ _ < _ ∧ _ < _) => a3
  rename (_ < _ ∧ _ < _ ∧ _ < _ ∧ _ < _ ∧ _ < _) => a2
  rename (_ < _ ∧ _ < _ ∧ _ < _ ∧ _ < _) => a1
  exact hnext _ _ _ _ _ _ _ _ _ _ _ _ _ _ _ _ (by assumption) (by with_reducible assumption) a2.1 a3.1 a1.1 (by assumption) (by assumption) (by assumption)
theorem law_C (hA : LawAt w loose mean mg mb dp un outer A₀ base h₀) (hE : PassesOwn (model PR w) (lawA dp un gd L fa cdv outer) (lawE L fa cdv) E) {t0 : Tok} {B I D1 : Addr} {ob c3 c4 : Obj} {nb c nd : Nat} {v3 v4 : Option Value} {vs ws : List Value} {ns : List Int}
    (hF : Fr h₀ L s.heap (fun y => if y = Str.ofString "many" then some (.int k tm) else m0 y))
    (hN : News h₀ L s.heap [(B, W.listOf #[.ref I, .int 0 t0] nb), (I, W.listOf vs.toArray c), (D1, W.listOf ws.toArray nd), (L + 1 + 1 + 1 + 1, c4), (L + 1 + 1 + 1, c3), (L + 1 + 1, od), (L + 1, ob)])
    (hI : D1 < I) (hB1 : I < B) (hD : L + 1 + 1 + 1 + 1 < D1) (db : ob.data = .cell (some (.ref B))) (dd : od.data = .cell (some (.int D td))) (d3 : c3.data = .cell v3) (d4 : c4.data = .cell v4) (hi : IntsAre vs ns) (hz : ns.length ≤ 1000) (k0 : 0 ≤ k) (k1 : k < 7) (h1 : 1 ≤ D) (h2 : D ≤ 15)
    (hret : ∀ h' tk', (∀ b o, h₀.get? b = some o → h'.get? b = some o) → Q (.ret (.bool true)) { s with heap := h', toks := tk' }) :
    wpAny (model PR w) (lawA dp un gd L fa cdv outer) (execs (lawRec.body.drop 3) (lawE L fa cdv)) Q E s := by
  have hI' := ltN hI
  have hB1' := ltN hB1
  have hD' := ltN hD
  refine execs_step 3 (law_S2 hA hF hN hI hB1 hD db d3 hi hz k0 k1 fun h' tk' R ys xs ex vs' c' orow F N dr hxl hlaw hnum hex hR => ?_)
  have U : UpdF (L + 1 + 1 + 1 + 1) c4 ((R, LCg.lst ys) :: (B, W.listOf #[.ref I, .int 0 t0] nb) :: (I, W.listOf vs'.toArray c') :: (D1, W.listOf ws.toArray nd) :: (L + 1 + 1 + 1 + 1, c4) :: (L + 1 + 1 + 1, orow) :: (L + 1 + 1, od) :: (L + 1, ob) :: ex)
      (fun o => (R, LCg.lst ys) :: (B, W.listOf #[.ref I, .int 0 t0] nb) :: (I, W.listOf vs'.toArray c') :: (D1, W.listOf ws.toArray nd) :: (L + 1 + 1 + 1 + 1, o) :: (L + 1 + 1 + 1, orow) :: (L + 1 + 1, od) :: (L + 1, ob) :: ex) := by
    have hR' := hR
    k_updF
  refine execs_step 4 (law_S3 hA F N U (nR := ys.length) (fun o => List.mem_cons_self) (fun o => by k_mem) (fun o => by k_mem) (fun o => hnum.mono (by walk_at "SUBL")) dd dr d4 hlaw hxl k1 h1 h2 fun h2 t2 news' WL ts nW ow F2 N2 hS => ?_)
  exact law_B hA hE F2 N2 hS fun h t q => hret h t q
theorem law_all (hA : LawAt w loose mean mg mb dp un outer A₀ base h₀) (hE : PassesOwn (model PR w) (lawA dp un gd L fa cdv outer) (lawE L fa cdv) E) {c1 c2 c3 c4 : Obj} {v1 v2 v3 v4 : Option Value} {l : Addr} {vs : List Value} {ns : List Int}
    (hF : Fr h₀ L s.heap (fun y => if y = Str.ofString "script" then some (.ref l) else m0 y))
    (hN : News h₀ L s.heap [(L + 1 + 1 + 1 + 1, c4), (L + 1 + 1 + 1, c3), (L + 1 + 1, c2), (L + 1, c1)])
    (d1 : c1.data = .cell v1) (d2 : c2.data = .cell v2) (d3 : c3.data = .cell v3) (d4 : c4.data = .cell v4) (hl : h₀.IsList l vs.toArray) (hi : IntsAre vs ns) (hz : ns.length ≤ 63)
    (hret : ∀ h' tk', (∀ b o, h₀.get? b = some o → h'.get? b = some o) → Q (.ret (.bool true)) { s with heap := h', toks := tk' }) :
    wpAny (model PR w) (lawA dp un gd L fa cdv outer) (execs lawRec.body (lawE L fa cdv)) Q E s := by
  obtain ⟨k0, k1⟩ := seedV_bounds (ns.take 40) (limit := 7) (by decide)
  obtain ⟨g0, g1⟩ := seedV_bounds (ns.take 40).tail (limit := 15) (by decide)
  refine execs_cut 3 (law_S1 hA hF hN d1 d2 d3 d4 hl hi hz fun h' tk' B I D1 ob od nb c nd tm t0 td vs' ws m1 F N hI hB hD db dd hi' => ?_)
  exact law_C hA hE F N hI hB hD db dd d3 d4 hi' (by rw [List.length_tail, List.length_tail, List.length_take]; omega) k0 k1 (by omega) (by omega) fun h t q => hret h t q
end
theorem fresh_P32 : True := by
  w_top off
  exact trivial
set_option maxHeartbeats 40000000 in
theorem main : PySem.Challenge.rw_pq1316_01.Holds := hd (by
  w_strict (k_go0
            (try k_fold)
            rename Fr _ _ _ _ => F1
            rename IntsAre _ _ => hI1
            rename Heap.IsList _ _ _ => hL1
            refine law_all (outer := []) (A₀ := callerA) (ns := _) ⟨by assumption, by assumption, by assumption, ?_, ?_⟩ ?_ (fr1 F1 rfl) (by assumption) (by assumption) (by assumption) (by assumption) (by assumption) hL1 hI1 ?_ ?_
            · decide
            · decide
            · passes_own
            · omega
            · intro h' tk' hkeep
              dsimp only [qk]
              exact ⟨.inl ⟨.bool true, .bool true, [], rfl, fun _ => rfl, ReadsW.bool true, (by wrow_post), fun _ => ⟨List.nodup_nil, fun _ hm => nomatch hm⟩⟩, hkeep, rfl, by assumption⟩))
end Mine
set_option maxRecDepth 100000 in
set_option maxHeartbeats 8000000 in
theorem PySem.Challenge.cw_pq1316_01_holds : PySem.Challenge.rw_pq1316_01.Holds :=
  Mine.main
