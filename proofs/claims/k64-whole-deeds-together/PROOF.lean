import PyProof.Rows.All
import Wide.All
import OpenK.AllK
import Wide.FinOn
import HandS.ForMost
import HandS.Wide
import HandS.IsInst
import HandS.Style
import HandS.TupAny
import HandS.More
import HandS.Exc
import HandS.ExcInit
import KE.KExcInit
import HandS.RaiseOp
import HandS.TryMany
import HandS.ExcCtx
import HandS.HotCalls
import HandS.Property
import KE.GoesEnum
import HandS.Iter
import HandS.DictComp
import HandS.WordsDict
import HandS.Walk
import HandS.Finally
import HandS.CallSlots
import KE.KNest
import HandS.Star
import HandS.Defaults
import HandS.Nested
import HandS.ExcIs
import HandS.ExcField
import HandS.RaiseMore
import HandS.SetFor
import KE.KTryMore
import HandS.ExcBuiltin
import PyProof.ReprRoads
import PyProof.Rows.Range3
import PyProof.ReprLen
import PyProof.Rows.StrJoinMade
import HandS.EndTab
import PySem.Challenge.RW_purepowers_k64_whole_deeds_together
set_option Elab.async false
set_option linter.all false
set_option maxRecDepth 100000
set_option maxHeartbeats 4000000
section
set_option maxHeartbeats 0
open PySem PySem.W PyProof.Rows
open_top head for PySem.Challenge.rw_purepowers_k64_whole_deeds_together
end
-- A0
namespace Pp
open PySem PySem.Spec PyProof.Rows L2
/-! the text, by places -/
def top (i : Nat) : Stmt := PySem.Challenge.pw_purepowers_k64_whole_deeds_together.main.body.getD i (.Pass ⟨0, 0, 0, 0⟩)
/-- a def of the top as it stands behind it: where, under which name -/
structure At (K : PySem.W.Frag) (mg : Str → Option Value) (x : Str) (st : Stmt) : Prop where
  ex : ∃ f fd, Fun K x x st f fd ∧ mg x = some (.ref f)
/-- a def that keeps its promise, called by its name -/
structure Dn (P : Program) (w : World) (K : PySem.W.Frag) (mg : Str → Option Value) (base : Heap) (cx : CXT) (k : Nat) (x : Str) (ps : List Str) (sp : Sp) : Prop where
  ex : ∃ f fd, FnOk P w K mg base cx k f fd ps sp ∧ mg x = some (.ref f) ∧ PySem.W.keepIn K (.ref f) = true ∧ Binds K fd ps []
/-- the built-in names that the text uses stand as they are -/
structure Blt (mg : Str → Option Value) : Prop where
  range : mg "range" = none
  len : mg "len" = none
  abs : mg "abs" = none
  int : mg "int" = none
  isinstance : mg "isinstance" = none
  str : mg "str" = none
  bool : mg "bool" = none
  tuple : mg "tuple" = none
  list : mg "list" = none
  dict : mg "dict" = none
  max : mg "max" = none
  min : mg "min" = none
  all : mg "all" = none
  zip : mg "zip" = none
  repr : mg "repr" = none
  sorted : mg "sorted" = none
  enumerate : mg "enumerate" = none
  valueError : mg "ValueError" = none
  lookupError : mg "LookupError" = none
  arithmeticError : mg "ArithmeticError" = none
  keyError : mg "KeyError" = none
section
variable {X : Cx} {cx : CXT} {k j : Nat} {x : Str} {ps : List Str} {sp : Sp} {E : XK} {p pos : Pos} {e : Expr} {es : List Expr} {t : TA}
theorem pe_fnX (D : Dn X.prog X.w X.K X.mg X.base cx k x ps sp) (hr : Room j X.A) (hk : k ≤ j) (hg : Gl X x) (hx : Passes cx X E) (ha : PA X (e :: es) t) (hdb : (x == ("__debug__" : Str)) = false := by decide)
    (he : starEach (e :: es) X.env = (false, eval e X.env) :: starEach es X.env := by rfl) (hpl : (backTo pos (starEach es X.env)).any (·.1) = false := by rfl) :
    PE X (.Call (.Name x p) (e :: es) [] pos) (tCall sp [] E t) := by
  obtain ⟨f, fd, F, hm, kp, b⟩ := D.ex
  exact pe_call F (hr.mono hk) hg hm kp b .nil hx ha hdb he hpl
theorem pe_fn (D : Dn X.prog X.w X.K X.mg X.base CX0 k x ps sp) (hr : Room j X.A) (hk : k ≤ j) (hg : Gl X x) (ha : PA X (e :: es) t) (hdb : (x == ("__debug__" : Str)) = false := by decide)
    (he : starEach (e :: es) X.env = (false, eval e X.env) :: starEach es X.env := by rfl) (hpl : (backTo pos (starEach es X.env)).any (·.1) = false := by rfl) :
    PE X (.Call (.Name x p) (e :: es) [] pos) (tCall sp [] E0 t) := pe_fnX D hr hk hg pass0 ha hdb he hpl
end
section
variable {P : Program} {w : World} {K : PySem.W.Frag} {mg : Str → Option Value} {base : Heap}
/-- a def that lets nothing out -/
theorem At.ok {x : Str} {st : Stmt} {N ps : List Str} {k : Nat} {sp : Sp} (F : At K mg x st) (S : FnScope N ps (defScope st)) (len : ∀ vs H Q E, sp vs H Q E → vs.length = ps.length)
    (hb : ∀ (kV doc pm : Value) (an : Option Addr) (cdv ct : Value) (us : List Value), us.length = ps.length → bindArgs (PySem.W.fnOf x x (defArgs st) (defBody st) (defScope st) .none kV doc pm an cdv ct) ⟨us, []⟩ = pure (ps.zip us))
    (hbody : ∀ (f : Addr) (cdv : Value) (A : Around) (outer : List Env) (s : Shared) (H : Hp) (vs : List V) (Q : VK) (E : XK), Room k (A.deeper (envOfC x (defScope st) s.heap.objs.size f cdv)) → sp vs H Q E →
      ∃ t, PSs (cxOf CX0 P w K mg base N x (defScope st) f cdv A outer s H E).nox (defBody st) t ∧ t { nx := fun _ H' => Q .non H', rt := Q } (start N vs) H) : Dn P w K mg base CX0 (k + 1) x ps sp := by
  obtain ⟨f, fd, F, hm⟩ := F.ex
  exact ⟨f, fd, F.ok S len (hbody f), hm, F.kp, F.binds hb⟩
end
/-! readings, taken apart -/
section
variable {K : PySem.W.Frag} {σ : L2.St} {H : Hp} {D : Ends} {t u : TS} {ta tb : TE} {tr : TA} {Q : VK} {i : Nat} {v : V}
theorem q_seq : tSeq t u D σ H = t { D with nx := u D } σ H := rfl
theorem q_asg {g : TG} : tAsg ta g D σ H = ta σ H fun x H1 => g x σ H1 D.nx := rfl
theorem q_name {R : L2.St → Hp → Prop} : gName i v σ H R = R (σ.set i (some v)) H := rfl
theorem q_var : tVar i σ H Q = ∃ v, σ[i]? = some (some v) ∧ Q v H := rfl
theorem q_c : tC v σ H Q = Q v H := rfl
theorem q_op {r : R2} : tOp r ta tb σ H Q = ta σ H fun x H1 => tb σ H1 fun y H2 => r x y H2 Q := rfl
theorem q_ret : tRet ta D σ H = ta σ H D.rt := rfl
theorem q_cons {R : List V → Hp → Prop} : tCons ta tr σ H R = ta σ H fun x H1 => tr σ H1 fun xs H2 => R (x :: xs) H2 := rfl
theorem q_nil {R : List V → Hp → Prop} : tNil σ H R = R [] H := rfl
theorem q_call {sp : Sp} {E : XK} : tCall sp [] E tr σ H Q = tr σ H fun vs H1 => sp (vs ++ []) H1 Q E := rfl
theorem q_rI {C : Int → Int → Prop} {g : Int → Int → V} {x y : V} : rI C g x y H Q = ∃ i j, x = .int i ∧ y = .int j ∧ C i j ∧ Q (g i j) H := rfl
theorem q_rI0 {g : Int → Int → V} {x y : V} : rI0 g x y H Q = ∃ i j, x = .int i ∧ y = .int j ∧ Q (g i j) H := rfl
end
end Pp
-- A1
namespace Pp
open PySem PySem.Spec PyProof.Rows L2
theorem same_new {H : Hp} {p : Addr} {o : HO} (h : H p = none) : Same H (upd H p o) := fun b u e => by
  rw [upd_ne (ne_of_none e h)]
  exact e
/-! a while whose word speaks of data a -/
def Wa {α : Type} (S : α → L2.St) (I : α → Hp → Prop) (μ : α → Nat) (m : Nat) (σ : L2.St) (H : Hp) : Prop := ∃ a, σ = S a ∧ I a H ∧ μ a = m
theorem while_a {α : Type} {c : TT} {tb : TS} {D : Ends} {σ : L2.St} {H : Hp} (S : α → L2.St) (I : α → Hp → Prop) (μ : α → Nat) (a0 : α) (e0 : σ = S a0) (h0 : I a0 H)
    (hs : ∀ a H, I a H → c (S a) H fun b H1 => if b = true then ∃ N : L2.St → Hp → Prop, (∀ σ' H', N σ' H' → ∃ m', m' < μ a ∧ Wa S I μ m' σ' H') ∧ tb { D with nx := N, ct := N, bk := D.nx } (S a) H1 else D.nx (S a) H1) : tWhile c tb D σ H := by
  refine ⟨Wa S I μ, ⟨_, a0, e0, h0, rfl⟩, ?_⟩
  rintro m σ H' ⟨a, rfl, ha, rfl⟩
  exact hs a H' ha
/-! powers -/
abbrev s_power_of : Stmt := top 20
theorem sc_power_of : FnScope ["base", "many", "found", "turn"] ["base", "many"] (defScope s_power_of) := ⟨rfl, rfl, rfl, by decide +kernel, rfl, by decide +kernel, by decide +kernel⟩
abbrev N_power_of : List Str := ["base", "many", "found", "turn"]
def spPow : Sp := fun vs H Q _ => ∃ (b : Int) (n : Nat), vs = [.int b, .int n] ∧ n ≤ 1000 ∧ b.natAbs < 2 ^ 400 ∧ Q (.int (b ^ n)) H
theorem pow_lt {b : Int} {a n : Nat} (h : b.natAbs < 2 ^ a) (ha : 0 < a) : (b ^ n).natAbs < 2 ^ (a * n + 1) := by
  rw [Int.natAbs_pow, Nat.pow_succ, Nat.pow_mul]
  have h1 : b.natAbs ^ n ≤ (2 ^ a) ^ n := Nat.pow_le_pow_left (Nat.le_of_lt h) n
  have h2 : 0 < (2 ^ a) ^ n := Nat.pow_pos (Nat.pow_pos (by decide))
  omega
section
variable {P : Program} {w : World} {K : PySem.W.Frag} {mg : Str → Option Value} {base : Heap}
theorem d_power_of (F : At K mg "power_of" s_power_of) (B : Blt mg) : Dn P w K mg base CX0 1 "power_of" ["base", "many"] spPow := by
  refine F.ok sc_power_of (fun vs H Q E h => ?_) (fun _ _ _ _ _ _ us hl => match us, hl with | [_, _], _ => rfl) (fun f cdv A outer s H vs Q E hr h => ?_)
  · obtain ⟨_, _, rfl, _⟩ := h
    rfl
  obtain ⟨b, n, rfl, hn, hb, k⟩ := h
  refine ⟨_, (pss_cons (ps_set (i := 2) sc_power_of.nd rfl (.inl rfl) pe_int)
  (pss_cons (ps_for PassesOwn.never rfl (pi_range1 rfl B.range (pa_cons (pv 1) pa_nil)) (pg_name (i := 3) sc_power_of.nd rfl (.inl rfl))
    (pss_one (ps_set (i := 2) sc_power_of.nd rfl (.inl rfl) (pe_op op_mulW (pv 2) (pv 0)))))
  (pss_one (ps_ret (pv 2))))), ?_⟩
  refine ⟨_, rfl, n, rfl, by omega, by omega, ?_⟩
  refine for_range (lo := 0) (n := (n : Int).toNat) (fun i σ H' => H' = H ∧ ∃ o, σ = [some (.int b), some (.int n), some (.int (b ^ i)), o]) ⟨rfl, none, by rw [Int.pow_zero]; rfl⟩ ?_ ?_
  · rintro i σ H' hi ⟨rfl, o, rfl⟩
    have hi' : i < n := by omega
    refine ⟨_, rfl, _, rfl, _, _, rfl, rfl, ?_, rfl, some (.int (0 + i)), by rw [Int.pow_succ]; rfl⟩
    exact wide_mul (pow_lt hb (by decide)) hb (by omega) (by decide) (by omega)
  · rintro σ H' ⟨rfl, o, rfl⟩
    refine ⟨_, rfl, ?_⟩
    have e : (n : Int).toNat = n := by omega
    rw [e]
    exact k
end
/-! the greatest common divisor -/
abbrev s_common_divisor : Stmt := top 21
theorem sc_common_divisor : FnScope ["one", "other"] ["one", "other"] (defScope s_common_divisor) := ⟨rfl, rfl, rfl, by decide +kernel, rfl, by decide +kernel, by decide +kernel⟩
abbrev N_common_divisor : List Str := ["one", "other"]
def spGcd : Sp := fun vs H Q _ => ∃ (a b : Nat), vs = [.int a, .int b] ∧ Q (.int (Nat.gcd a b : Nat)) H
section
variable {P : Program} {w : World} {K : PySem.W.Frag} {mg : Str → Option Value} {base : Heap}
theorem d_common_divisor (F : At K mg "common_divisor" s_common_divisor) : Dn P w K mg base CX0 1 "common_divisor" ["one", "other"] spGcd := by
  refine F.ok sc_common_divisor (fun vs H Q E h => ?_) (fun _ _ _ _ _ _ us hl => match us, hl with | [_, _], _ => rfl) (fun f cdv A outer s H vs Q E hr h => ?_)
  · obtain ⟨_, _, rfl, _⟩ := h
    rfl
  obtain ⟨a, b, rfl, k⟩ := h
  refine ⟨_, (pss_cons (ps_while PassesOwn.never (pt_cmpR op_ne (pv 1) pe_int (nomark _)) (pss_one (ps_par (i := 0) (j := 1) rfl sc_common_divisor.nd rfl rfl (by decide) rfl rfl (pa_cons (pv 1) (pa_cons (pe_op op_mod (pv 0) (pv 1)) pa_nil)) (by rfl))))
  (pss_one (ps_ret (pv 0)))), ?_⟩
  refine while_a (α := Nat × Nat) (fun z => [some (.int (z.1 : Int)), some (.int (z.2 : Int))]) (fun z H' => H' = H ∧ Nat.gcd z.1 z.2 = Nat.gcd a b) (fun z => z.2) (a, b) rfl ⟨rfl, rfl⟩ ?_
  rintro ⟨x, y⟩ H' ⟨rfl, hg⟩
  refine ⟨_, rfl, rfl, _, rfl, ?_⟩
  by_cases hy : y = 0
  · subst hy
    have e : decide (V.int ((0 : Nat) : Int) = V.int 0) = true := decide_eq_true rfl
    rw [e]
    refine iteF ?_
    refine ⟨_, rfl, ?_⟩
    have g : x = Nat.gcd a b := by
      rw [← hg]
      exact (Nat.gcd_zero_right x).symm
    show Q (.int (x : Int)) H'
    rw [g]
    exact k
  · have e : decide (V.int (y : Int) = V.int 0) = false := decide_eq_false fun z => hy (by injection z with z; omega)
    rw [e]
    refine iteT ?_
    refine ⟨_, fun _ _ h => h, ?_⟩
    refine ⟨_, rfl, _, rfl, _, rfl, _, _, rfl, rfl, (by show (0 : Int) < (y : Int); omega), _, _, rfl, ?_⟩
    refine ⟨x % y, Nat.mod_lt _ (Nat.pos_of_ne_zero hy), (y, x % y), rfl, ⟨rfl, ?_⟩, rfl⟩
    rw [← hg, Nat.gcd_comm x y, Nat.gcd_rec y x, Nat.gcd_comm]
end
/-! roots of integers -/
abbrev s_floor_root : Stmt := top 22
theorem sc_floor_root : FnScope ["value", "power", "low", "high", "middle"] ["value", "power"] (defScope s_floor_root) := ⟨rfl, rfl, rfl, by decide +kernel, rfl, by decide +kernel, by decide +kernel⟩
abbrev N_floor_root : List Str := ["value", "power", "low", "high", "middle"]
def spRoot : Sp := fun vs H Q _ => ∃ (v p : Nat), vs = [.int v, .int p] ∧ v < 2 ^ 200 ∧ 1 ≤ p ∧ p ≤ 1000 ∧ ∀ (r : Nat) (H' : Hp), Same H H' → r ^ p ≤ v → v < (r + 1) ^ p → Q (.int r) H'
theorem le_pow_self {r p : Nat} (h : 1 ≤ p) : r ≤ r ^ p := by
  cases r with
  | zero => exact Nat.zero_le _
  | succ n => exact Nat.le_self_pow (by omega) _
theorem int_pow_le {a p v : Nat} : ((a : Int) ^ p ≤ (v : Int)) ↔ a ^ p ≤ v := by
  rw [← Int.natCast_pow]
  exact Int.ofNat_le
theorem int_pow_lt {a p v : Nat} : ((a : Int) ^ p < (v : Int)) ↔ a ^ p < v := by
  rw [← Int.natCast_pow]
  exact Int.ofNat_lt
section
variable {P : Program} {w : World} {K : PySem.W.Frag} {mg : Str → Option Value} {base : Heap}
theorem d_floor_root (F : At K mg "floor_root" s_floor_root) (D_power_of : Dn P w K mg base CX0 1 "power_of" ["base", "many"] spPow) : Dn P w K mg base CX0 2 "floor_root" ["value", "power"] spRoot := by
  refine F.ok sc_floor_root (fun vs H Q E h => ?_) (fun _ _ _ _ _ _ us hl => match us, hl with | [_, _], _ => rfl) (fun f cdv A outer s H vs Q E hr h => ?_)
  · obtain ⟨_, _, rfl, _⟩ := h
    rfl
  obtain ⟨v, p, rfl, hv, hp, hp2, k⟩ := h
  refine ⟨_, (pss_cons (ps_asg (pe_tup (pa_cons pe_int (pa_cons pe_int pa_nil))) (pg_tup rfl (pgs_cons (pg_name (i := 2) sc_floor_root.nd rfl (.inl rfl)) (pgs_cons (pg_name (i := 3) sc_floor_root.nd rfl (.inl rfl)) pgs_nil))))
  (pss_cons (ps_while PassesOwn.never (pt_cmpR op_le (pe_fn D_power_of hr (by decide) rfl (pa_cons (pv 3) (pa_cons (pv 1) pa_nil))) (pv 0) (nomark _)) (pss_one (ps_par (i := 2) (j := 3) rfl sc_floor_root.nd rfl rfl (by decide) rfl rfl (pa_cons (pv 3) (pa_cons (pe_op op_mulW pe_int (pv 3)) pa_nil)) (by rfl))))
  (pss_cons (ps_while PassesOwn.never (pt_cmpR op_gt (pe_op op_sub (pv 3) (pv 2)) pe_int (nomark _)) (pss_cons (ps_set (i := 4) sc_floor_root.nd rfl (.inl rfl) (pe_op op_fdivW (pe_op op_add (pv 2) (pv 3)) pe_int))
  (pss_one (ps_if (pt_cmpR op_le (pe_fn D_power_of hr (by decide) rfl (pa_cons (pv 4) (pa_cons (pv 1) pa_nil))) (pv 0) (nomark _)) (pss_one (ps_set (i := 2) sc_floor_root.nd rfl (.inl rfl) (pv 4))) (pss_one (ps_set (i := 3) sc_floor_root.nd rfl (.inl rfl) (pv 4)))))))
  (pss_one (ps_ret (pv 2)))))), ?_⟩
  refine ⟨by decide, fun t ht => ⟨t, _, rfl, SqT.of upd_same, rfl, _, _, rfl, _, _, rfl, rfl, ?_⟩⟩
  have S0 := same_new (o := .tup [.int 0, .int 1]) ht
  revert S0
  generalize upd H t (.tup [.int 0, .int 1]) = H1
  intro S0
  have z0 : 0 ^ p = 0 := Nat.zero_pow (by omega)
  refine while_a (α := Nat × Nat) (fun z => [some (.int (v : Int)), some (.int (p : Int)), some (.int (z.1 : Int)), some (.int (z.2 : Int)), none])
    (fun z H' => H' = H1 ∧ z.1 ^ p ≤ v ∧ z.1 < z.2 ∧ z.2 ≤ 2 * z.1 + 1) (fun z => v + 1 - z.1) (0, 1) rfl ⟨rfl, by rw [z0]; omega, by decide, by decide⟩ ?_
  rintro ⟨l, h⟩ H' ⟨rfl, h1, h2, h3⟩
  dsimp only at h1 h2 h3
  have hl : l ≤ v := Nat.le_trans (le_pow_self hp) h1
  have hh : h < 2 ^ 400 := by
    have : (2 : Nat) ^ 200 + 2 ^ 200 + 1 < 2 ^ 400 := by decide
    omega
  refine ⟨_, rfl, _, rfl, (h : Int), p, rfl, by omega, by rw [Int.natAbs_natCast]; exact hh, _, rfl, _, _, rfl, rfl, _, rfl, ?_⟩
  refine ite2 (fun c => ?_) (fun c => ?_)
  · have c' : h ^ p ≤ v := int_pow_le.mp (of_decide_eq_true c)
    refine ⟨_, fun _ _ h => h, ?_⟩
    refine ⟨_, rfl, _, rfl, _, _, rfl, rfl, wide_mul (a := 3) (b := 400) (by decide) (by rw [Int.natAbs_natCast]; exact hh) (by decide) (by decide) (by decide), _, _, rfl, ?_⟩
    have hhv : h ≤ v := Nat.le_trans (le_pow_self hp) c'
    exact ⟨v + 1 - h, by show v + 1 - h < v + 1 - l; omega, (h, 2 * h), rfl, ⟨rfl, c', by show h < 2 * h; omega, by show 2 * h ≤ 2 * h + 1; omega⟩, rfl⟩
  · have c' : v < h ^ p := Nat.lt_of_not_le fun z => c (decide_eq_true (int_pow_le.mpr z))
    refine while_a (α := Nat × Nat × Option V) (fun z => [some (.int (v : Int)), some (.int (p : Int)), some (.int (z.1 : Int)), some (.int (z.2.1 : Int)), z.2.2])
      (fun z Hx => Hx = H' ∧ z.1 ^ p ≤ v ∧ v < z.2.1 ^ p ∧ z.1 < z.2.1 ∧ z.2.1 ≤ h) (fun z => z.2.1 - z.1) (l, h, none) rfl ⟨rfl, h1, c', h2, Nat.le_refl _⟩ ?_
    rintro ⟨a, b, o⟩ Hx ⟨rfl, g1, g2, g3, g4⟩
    dsimp only at g1 g2 g3 g4
    refine ⟨_, rfl, _, rfl, _, _, rfl, rfl, _, _, rfl, rfl, _, rfl, ?_⟩
    refine ite2 (fun d => ?_) (fun d => ?_)
    · have d' : (1 : Int) < (b : Int) - (a : Int) := of_decide_eq_true d
      refine ⟨_, fun _ _ h => h, ?_⟩
      have em : ((a : Int) + (b : Int)) / 2 = ((((a + b) / 2 : Nat)) : Int) := by omega
      have m1 : a < (a + b) / 2 := by omega
      have m2 : (a + b) / 2 < b := by omega
      refine ⟨_, rfl, _, rfl, _, _, rfl, rfl, _, _, rfl, rfl, wide_div (b := 3) (by decide) (by decide) (by decide) (by decide), ?_⟩
      refine ⟨_, rfl, _, rfl, (((a + b) / 2 : Nat) : Int), p, rfl, by omega, by rw [Int.natAbs_natCast]; omega, _, rfl, _, _, rfl, rfl, _, rfl, ?_⟩
      refine ite2 (fun y => ?_) (fun y => ?_)
      · have y' := int_pow_le.mp (of_decide_eq_true y)
        exact ⟨_, rfl, b - (a + b) / 2, by show b - (a + b) / 2 < b - a; omega, ((a + b) / 2, b, some (.int (((a + b) / 2 : Nat) : Int))), rfl, ⟨rfl, y', g2, m2, g4⟩, rfl⟩
      · have y' : v < ((a + b) / 2) ^ p := Nat.lt_of_not_le fun z => y (decide_eq_true (int_pow_le.mpr z))
        exact ⟨_, rfl, (a + b) / 2 - a, by show (a + b) / 2 - a < b - a; omega, (a, (a + b) / 2, some (.int (((a + b) / 2 : Nat) : Int))), rfl, ⟨rfl, g1, y', m1, by show (a + b) / 2 ≤ h; omega⟩, rfl⟩
    · have d' : ¬ (1 : Int) < (b : Int) - (a : Int) := fun z => d (decide_eq_true z)
      have e : b = a + 1 := by omega
      subst e
      exact ⟨_, rfl, k a _ S0 g1 g2⟩
end
abbrev s_is_power : Stmt := top 23
theorem sc_is_power : FnScope ["value", "power"] ["value", "power"] (defScope s_is_power) := ⟨rfl, rfl, rfl, by decide +kernel, rfl, by decide +kernel, by decide +kernel⟩
abbrev N_is_power : List Str := ["value", "power"]
def spIsPow : Sp := fun vs H Q _ => ∃ (v p : Nat), vs = [.int v, .int p] ∧ v < 2 ^ 200 ∧ 1 ≤ p ∧ p ≤ 1000 ∧ ∀ (b : Bool) (H' : Hp), Same H H' → (b = true ↔ ∃ r : Nat, r ^ p = v) → Q (.bl b) H'
section
variable {P : Program} {w : World} {K : PySem.W.Frag} {mg : Str → Option Value} {base : Heap}
theorem d_is_power (F : At K mg "is_power" s_is_power) (D_power_of : Dn P w K mg base CX0 1 "power_of" ["base", "many"] spPow) (D_floor_root : Dn P w K mg base CX0 2 "floor_root" ["value", "power"] spRoot) : Dn P w K mg base CX0 3 "is_power" ["value", "power"] spIsPow := by
  refine F.ok sc_is_power (fun vs H Q E h => ?_) (fun _ _ _ _ _ _ us hl => match us, hl with | [_, _], _ => rfl) (fun f cdv A outer s H vs Q E hr h => ?_)
  · obtain ⟨_, _, rfl, _⟩ := h
    rfl
  obtain ⟨v, p, rfl, hv, hp, hp2, k⟩ := h
  refine ⟨_, (pss_one (ps_ret (pe_cmpR op_eq (pe_fn D_power_of hr (by decide) rfl (pa_cons (pe_fn D_floor_root hr (by decide) rfl (pa_cons (pv 0) (pa_cons (pv 1) pa_nil))) (pa_cons (pv 1) pa_nil))) (pv 0) (nomark _)))), ?_⟩
  refine ⟨_, rfl, _, rfl, v, p, rfl, hv, hp, hp2, fun r H1 S1 h1 h2 => ?_⟩
  have hr2 : r ≤ v := Nat.le_trans (le_pow_self hp) h1
  have b2 : r < 2 ^ 400 := Nat.lt_of_le_of_lt hr2 (Nat.lt_trans hv (by decide))
  refine ⟨_, rfl, (r : Int), p, rfl, hp2, by rw [Int.natAbs_natCast]; exact b2, _, rfl, rfl, ?_⟩
  refine k _ _ S1 ?_
  rw [decide_eq_true_iff]
  constructor
  · intro e
    injection e with e
    exact ⟨r, by rw [← Int.natCast_pow] at e; exact Int.ofNat_inj.mp e⟩
  · rintro ⟨q, rfl⟩
    have a1 : r ≤ q := (Nat.pow_le_pow_iff_left (by omega)).mp h1
    have a2 : q < r + 1 := (Nat.pow_lt_pow_iff_left (by omega)).mp h2
    have a3 : q = r := by omega
    rw [a3, Int.natCast_pow]
end
abbrev s_whole_root : Stmt := top 31
theorem sc_whole_root : FnScope ["value", "power", "low", "high", "middle"] ["value", "power"] (defScope s_whole_root) := ⟨rfl, rfl, rfl, by decide +kernel, rfl, by decide +kernel, by decide +kernel⟩
abbrev N_whole_root : List Str := ["value", "power", "low", "high", "middle"]
def spWRoot : Sp := fun vs H Q _ => ∃ (v p : Nat), vs = [.int v, .int p] ∧ v < 2 ^ 200 ∧ 1 ≤ p ∧ p ≤ 1000 ∧ ∀ (r : Nat) (H' : Hp), Same H H' → r < 2 ^ 202 → Q (.int r) H'
section
variable {P : Program} {w : World} {K : PySem.W.Frag} {mg : Str → Option Value} {base : Heap}
theorem d_whole_root (F : At K mg "whole_root" s_whole_root) (D_power_of : Dn P w K mg base CX0 1 "power_of" ["base", "many"] spPow) : Dn P w K mg base CX0 2 "whole_root" ["value", "power"] spWRoot := by
  refine F.ok sc_whole_root (fun vs H Q E h => ?_) (fun _ _ _ _ _ _ us hl => match us, hl with | [_, _], _ => rfl) (fun f cdv A outer s H vs Q E hr h => ?_)
  · obtain ⟨_, _, rfl, _⟩ := h
    rfl
  obtain ⟨v, p, rfl, hv, hp, hp2, k⟩ := h
  refine ⟨_, (pss_cons (ps_asg (pe_tup (pa_cons pe_int (pa_cons pe_int pa_nil))) (pg_tup rfl (pgs_cons (pg_name (i := 2) sc_whole_root.nd rfl (.inl rfl)) (pgs_cons (pg_name (i := 3) sc_whole_root.nd rfl (.inl rfl)) pgs_nil))))
  (pss_cons (ps_while PassesOwn.never (pt_cmpR op_lt (pe_fn D_power_of hr (by decide) rfl (pa_cons (pv 3) (pa_cons (pv 1) pa_nil))) (pv 0) (nomark _)) (pss_one (ps_set (i := 3) sc_whole_root.nd rfl (.inl rfl) (pe_op op_mulW pe_int (pv 3)))))
  (pss_cons (ps_while PassesOwn.never (pt_cmpR op_lt (pv 2) (pv 3) (nomark _)) (pss_cons (ps_set (i := 4) sc_whole_root.nd rfl (.inl rfl) (pe_op op_fdivW (pe_op op_add (pv 2) (pv 3)) pe_int))
  (pss_one (ps_if (pt_cmpR op_lt (pe_fn D_power_of hr (by decide) rfl (pa_cons (pv 4) (pa_cons (pv 1) pa_nil))) (pv 0) (nomark _)) (pss_one (ps_set (i := 2) sc_whole_root.nd rfl (.inl rfl) (pe_op op_add (pv 4) pe_int))) (pss_one (ps_set (i := 3) sc_whole_root.nd rfl (.inl rfl) (pv 4)))))))
  (pss_one (ps_ret (pv 2)))))), ?_⟩
  refine ⟨by decide, fun t ht => ⟨t, _, rfl, SqT.of upd_same, rfl, _, _, rfl, _, _, rfl, rfl, ?_⟩⟩
  have S0 := same_new (o := .tup [.int 0, .int 1]) ht
  revert S0
  generalize upd H t (.tup [.int 0, .int 1]) = H1
  intro S0
  have big : (2 : Nat) ^ 200 + 2 ^ 200 + 1 < 2 ^ 202 := by decide
  have bigger : (2 : Nat) ^ 202 < 2 ^ 400 := by decide
  refine while_a (α := Nat) (fun z => [some (.int (v : Int)), some (.int (p : Int)), some (.int 0), some (.int (z : Int)), none])
    (fun z H' => H' = H1 ∧ 1 ≤ z ∧ z ≤ 2 * v + 1) (fun z => 2 * v + 2 - z) 1 rfl ⟨rfl, by decide, by omega⟩ ?_
  rintro h H' ⟨rfl, h1, h2⟩
  refine ⟨_, rfl, _, rfl, (h : Int), p, rfl, by omega, by rw [Int.natAbs_natCast]; omega, _, rfl, _, _, rfl, rfl, _, rfl, ?_⟩
  refine ite2 (fun c => ?_) (fun c => ?_)
  · have c' : h ^ p < v := int_pow_lt.mp (of_decide_eq_true c)
    have c2 : h < v := Nat.lt_of_le_of_lt (le_pow_self hp) c'
    refine ⟨_, fun _ _ h => h, ?_⟩
    refine ⟨_, rfl, _, _, rfl, rfl, wide_mul (a := 3) (b := 400) (by decide) (by rw [Int.natAbs_natCast]; omega) (by decide) (by decide) (by decide), ?_⟩
    exact ⟨2 * v + 2 - 2 * h, by omega, 2 * h, rfl, ⟨rfl, by omega, by omega⟩, rfl⟩
  · refine while_a (α := Nat × Nat × Option V) (fun z => [some (.int (v : Int)), some (.int (p : Int)), some (.int (z.1 : Int)), some (.int (z.2.1 : Int)), z.2.2])
      (fun z Hx => Hx = H' ∧ z.1 ≤ z.2.1 ∧ z.2.1 ≤ h) (fun z => z.2.1 - z.1) (0, h, none) rfl ⟨rfl, Nat.zero_le _, Nat.le_refl _⟩ ?_
    rintro ⟨a, b, o⟩ Hx ⟨rfl, g1, g2⟩
    dsimp only at g1 g2
    refine ⟨_, rfl, _, rfl, _, _, rfl, rfl, _, rfl, ?_⟩
    refine ite2 (fun d => ?_) (fun d => ?_)
    · have d' : (a : Int) < (b : Int) := of_decide_eq_true d
      refine ⟨_, fun _ _ h => h, ?_⟩
      have em : ((a : Int) + (b : Int)) / 2 = ((((a + b) / 2 : Nat)) : Int) := by omega
      have m1 : a ≤ (a + b) / 2 := by omega
      have m2 : (a + b) / 2 < b := by omega
      refine ⟨_, rfl, _, rfl, _, _, rfl, rfl, _, _, rfl, rfl, wide_div (b := 3) (by decide) (by decide) (by decide) (by decide), ?_⟩
      refine ⟨_, rfl, _, rfl, (((a + b) / 2 : Nat) : Int), p, rfl, by omega, by rw [Int.natAbs_natCast]; omega, _, rfl, _, _, rfl, rfl, _, rfl, ?_⟩
      refine ite2 (fun y => ?_) (fun y => ?_)
      · exact ⟨_, rfl, _, _, rfl, rfl, b - ((a + b) / 2 + 1), by show b - ((a + b) / 2 + 1) < b - a; omega, ((a + b) / 2 + 1, b, some (.int (((a + b) / 2 : Nat) : Int))), rfl, ⟨rfl, by show (a + b) / 2 + 1 ≤ b; omega, g2⟩, rfl⟩
      · exact ⟨_, rfl, (a + b) / 2 - a, by show (a + b) / 2 - a < b - a; omega, (a, (a + b) / 2, some (.int (((a + b) / 2 : Nat) : Int))), rfl, ⟨rfl, m1, by show (a + b) / 2 ≤ h; omega⟩, rfl⟩
    · exact ⟨_, rfl, k a _ S0 (by omega)⟩
end
end Pp
-- A2
namespace Pp
open PySem PySem.Spec PyProof.Rows L2
theorem sz1 : 1 ≤ sizeLine := by decide
theorem sz2 : 2 ≤ sizeLine := by decide
theorem sz3 : 3 ≤ sizeLine := by decide
/-! the exponent of a fraction above nought -/
def IsExpo (t b e : Nat) : Prop := (t = 1 ∧ b = 1 ∧ e = 0) ∨ (¬ (t = 1 ∧ b = 1) ∧ 1 ≤ e ∧ (∃ r : Nat, r ^ e = t) ∧ (∃ r : Nat, r ^ e = b) ∧ ∀ k, e < k → ¬ ((∃ r : Nat, r ^ k = t) ∧ ∃ r : Nat, r ^ k = b))
theorem no_root {t r k n : Nat} (h2 : 2 ≤ t) (e : r ^ k = t) (hl : t < 2 ^ (n + 1)) : k ≤ n := by
  subst e
  have r2 : 2 ≤ r := by
    rcases Nat.lt_or_ge r 2 with z | z
    · have : r = 0 ∨ r = 1 := by omega
      rcases this with rfl | rfl
      · have : (0 : Nat) ^ k ≤ 1 := by
          cases k with
          | zero => simp
          | succ n => rw [Nat.zero_pow (by omega)]; omega
        omega
      · rw [Nat.one_pow] at h2
        omega
    · exact z
  have h3 : 2 ^ k ≤ r ^ k := Nat.pow_le_pow_left r2 k
  have h4 : (2 : Nat) ^ k < 2 ^ (n + 1) := Nat.lt_of_le_of_lt h3 hl
  have := (Nat.pow_lt_pow_iff_right (by decide : 1 < 2)).mp h4
  omega
abbrev s_base_and_exponent : Stmt := top 32
theorem sc_base_and_exponent : FnScope ["top", "bottom", "power", "bound"] ["top", "bottom"] (defScope s_base_and_exponent) := ⟨rfl, rfl, rfl, by decide +kernel, rfl, by decide +kernel, by decide +kernel⟩
abbrev N_base_and_exponent : List Str := ["top", "bottom", "power", "bound"]
def spBE : Sp := fun vs H Q _ => ∃ (t b : Nat), vs = [.int t, .int b] ∧ 1 ≤ t ∧ t < 2 ^ 200 ∧ 1 ≤ b ∧ b < 2 ^ 200 ∧
  ∀ (e r1 r2 : Nat) (p q : Addr) (H' : Hp), IsExpo t b e → e ≤ 200 → r1 < 2 ^ 202 → r2 < 2 ^ 202 → Same H H' → H' p = some (.tup [.ref q, .int e]) → H' q = some (.tup [.int r1, .int r2]) → Q (.ref p) H'
theorem max_eq (a b : Nat) : (if (b : Int) > (a : Int) then (b : Int) else (a : Int)) = ((max a b : Nat) : Int) := by
  split <;> omega
section
variable {P : Program} {w : World} {K : PySem.W.Frag} {mg : Str → Option Value} {base : Heap}
theorem d_base_and_exponent (F : At K mg "base_and_exponent" s_base_and_exponent) (B : Blt mg) (D_is_power : Dn P w K mg base CX0 3 "is_power" ["value", "power"] spIsPow) (D_whole_root : Dn P w K mg base CX0 2 "whole_root" ["value", "power"] spWRoot) :
    Dn P w K mg base CX0 4 "base_and_exponent" ["top", "bottom"] spBE := by
  refine F.ok sc_base_and_exponent (fun vs H Q E h => ?_) (fun _ _ _ _ _ _ us hl => match us, hl with | [_, _], _ => rfl) (fun f cdv A outer s H vs Q E hr h => ?_)
  · obtain ⟨_, _, rfl, _⟩ := h
    rfl
  obtain ⟨t, b, rfl, ht1, ht2, hb1, hb2, k⟩ := h
  refine ⟨_, (pss_cons (ps_if (PW.pt (pw_and (pt_cmpR op_eq (pv 0) pe_int (nomark _)) (pw_and1 (pt_cmpR op_eq (pv 1) pe_int (nomark _))))) (pss_one (ps_ret (pe_tup (pa_cons (pe_tup (pa_cons pe_int (pa_cons pe_int pa_nil))) (pa_cons pe_int pa_nil))))) pss_nil)
  (pss_cons (ps_asg (pe_tup (pa_cons pe_int (pa_cons pe_int pa_nil))) (pg_tup rfl (pgs_cons (pg_name (i := 2) sc_base_and_exponent.nd rfl (.inl rfl)) (pgs_cons (pg_name (i := 3) sc_base_and_exponent.nd rfl (.inl rfl)) pgs_nil))))
  (pss_cons (ps_while PassesOwn.never (pt_cmpR op_le (pv 3) (pe_callB (call_max2 rfl) (by rfl) B.max (by decide +kernel) (pa_cons (pv 0) (pa_cons (pv 1) pa_nil))) (nomark _)) (pss_one (ps_par (i := 2) (j := 3) rfl sc_base_and_exponent.nd rfl rfl (by decide) rfl rfl (pa_cons (pe_op op_add (pv 2) pe_int) (pa_cons (pe_op op_mulW pe_int (pv 3)) pa_nil)) (by rfl))))
  (pss_cons (ps_while PassesOwn.never (PW.pt (pw_or (pt_not (pt_val (pe_fn D_is_power hr (by decide) rfl (pa_cons (pv 0) (pa_cons (pv 2) pa_nil))))) (pw_or1 (pt_not (pt_val (pe_fn D_is_power hr (by decide) rfl (pa_cons (pv 1) (pa_cons (pv 2) pa_nil)))))))) (pss_one (ps_aug (i := 2) sc_base_and_exponent.nd rfl (.inl rfl) pe_int ip_sub)))
  (pss_one (ps_ret (pe_tup (pa_cons (pe_tup (pa_cons (pe_fn D_whole_root hr (by decide) rfl (pa_cons (pv 0) (pa_cons (pv 2) pa_nil))) (pa_cons (pe_fn D_whole_root hr (by decide) rfl (pa_cons (pv 1) (pa_cons (pv 2) pa_nil))) pa_nil))) (pa_cons (pv 2) pa_nil))))))))), ?_⟩
  -- if top == 1 and bottom == 1: return ((1, 1), 0)
  have dec1 : ∀ n : Nat, decide (V.int (n : Int) = V.int 1) = decide (n = 1) := fun n => by
    rw [decide_eq_decide]
    constructor
    · intro z; injection z with z; omega
    · rintro rfl; rfl
  have main : ¬ (t = 1 ∧ b = 1) → ∀ (D : Ends), D.rt = Q → tSeq (tAsg (tTup (tCons (tC (V.int 1)) (tCons (tC (V.int 4)) tNil))) (gTup K 2 (gCons (gName 2) (gCons (gName 3) gNil))))
      (tSeq (tWhile (tTest (tOp (rI0 fun i j => V.bl (decide (i ≤ j))) (tVar 3) (tCB (fun xs H Q => ∃ i j, xs = [.int i, .int j] ∧ Q (.int (if j > i then j else i)) H) (tCons (tVar 0) (tCons (tVar 1) tNil))))) (tPar 2 3 (tCons (tOp (rI0 fun i j => .int (i + j)) (tVar 2) (tC (V.int 1))) (tCons (tOp (rI CMulW fun i j => .int (i * j)) (tC (V.int 2)) (tVar 3)) tNil))))
      (tSeq (tWhile (tOr (tNot (tB (tCall spIsPow [] E0 (tCons (tVar 0) (tCons (tVar 2) tNil))))) (tNot (tB (tCall spIsPow [] E0 (tCons (tVar 1) (tCons (tVar 2) tNil)))))) (tAug 2 (tC (V.int 1)) (ipI fun i j => i - j)))
      (tRet (tTup (tCons (tTup (tCons (tCall spWRoot [] E0 (tCons (tVar 0) (tCons (tVar 2) tNil))) (tCons (tCall spWRoot [] E0 (tCons (tVar 1) (tCons (tVar 2) tNil))) tNil))) (tCons (tVar 2) tNil)))))) D (start N_base_and_exponent [.int (t : Int), .int (b : Int)]) H := by
    intro hne D hD
    refine ⟨sz2, fun u hu => ⟨u, _, rfl, SqT.of upd_same, rfl, _, _, rfl, _, _, rfl, rfl, ?_⟩⟩
    have S0 := same_new (o := .tup [.int 1, .int 4]) hu
    revert S0
    generalize upd H u (.tup [.int 1, .int 4]) = H1
    intro S0
    refine while_a (α := Nat) (fun n => [some (.int (t : Int)), some (.int (b : Int)), some (.int (n : Int)), some (.int ((2 ^ (n + 1) : Nat) : Int))])
      (fun n H' => H' = H1 ∧ 1 ≤ n ∧ (n = 1 ∨ 2 ^ n ≤ max t b)) (fun n => 201 - n) 1 rfl ⟨rfl, Nat.le_refl _, .inl rfl⟩ ?_
    rintro n H' ⟨rfl, n1, n2⟩
    have nl : n < 200 ∨ n = 1 := by
      rcases n2 with z | z
      · exact .inr z
      · left
        have m : max t b < 2 ^ 200 := by omega
        exact (Nat.pow_lt_pow_iff_right (by decide : 1 < 2)).mp (Nat.lt_of_le_of_lt z m)
    refine ⟨_, rfl, _, rfl, _, rfl, (t : Int), (b : Int), rfl, _, _, rfl, rfl, _, rfl, ?_⟩
    rw [max_eq]
    refine ite2 (fun c => ?_) (fun c => ?_)
    · have c' : 2 ^ (n + 1) ≤ max t b := Int.ofNat_le.mp (of_decide_eq_true c)
      have pl : (2 : Nat) ^ (n + 1) < 2 ^ 202 := (Nat.pow_lt_pow_iff_right (by decide : 1 < 2)).mpr (by omega)
      refine ⟨_, fun _ _ h => h, ?_⟩
      refine ⟨_, rfl, _, _, rfl, rfl, _, rfl, _, _, rfl, rfl, wide_mul (a := 3) (b := 202) (by decide) (by rw [Int.natAbs_natCast]; exact pl) (by decide) (by decide) (by decide), _, _, rfl, ?_⟩
      refine ⟨201 - (n + 1), by omega, n + 1, ?_, ⟨rfl, by omega, .inr c'⟩, rfl⟩
      have e : (2 : Int) * ((2 ^ (n + 1) : Nat) : Int) = ((2 ^ (n + 1 + 1) : Nat) : Int) := by
        rw [Nat.pow_succ 2 (n + 1)]
        omega
      show [some (V.int (t : Int)), some (V.int (b : Int)), some (V.int ((n : Int) + 1)), some (V.int ((2 : Int) * ((2 ^ (n + 1) : Nat) : Int)))] = _
      rw [e]
      rfl
    · have c' : max t b < 2 ^ (n + 1) := Nat.lt_of_not_le fun z => c (decide_eq_true (Int.ofNat_le.mpr z))
      have top : ∀ k : Nat, n < k → ¬ ((∃ r : Nat, r ^ k = t) ∧ ∃ r : Nat, r ^ k = b) := by
        rintro k hk ⟨⟨r, hr1⟩, ⟨r', hr2⟩⟩
        rcases (by omega : 2 ≤ t ∨ 2 ≤ b) with z | z
        · have := no_root z hr1 (by omega : t < 2 ^ (n + 1))
          omega
        · have := no_root z hr2 (by omega : b < 2 ^ (n + 1))
          omega
      refine while_a (α := Nat) (fun m => [some (.int (t : Int)), some (.int (b : Int)), some (.int (m : Int)), some (.int ((2 ^ (n + 1) : Nat) : Int))])
        (fun m H' => Same H H' ∧ 1 ≤ m ∧ m ≤ n ∧ ∀ k : Nat, m < k → ¬ ((∃ r : Nat, r ^ k = t) ∧ ∃ r : Nat, r ^ k = b)) (fun m => m) n rfl ⟨S0, n1, Nat.le_refl _, top⟩ ?_
      rintro m H' ⟨S1, m1, m2, m3⟩
      have m10 : m ≤ 200 := by omega
      have m9 : m ≤ 1000 := Nat.le_trans m10 (by decide)
      refine ⟨_, rfl, _, rfl, t, m, rfl, ht2, m1, m9, fun b1 H2 S2 hb => ⟨_, rfl, ?_⟩⟩
      have bad : ∀ H3 : Hp, Same H H3 → ¬ ((∃ r : Nat, r ^ m = t) ∧ ∃ r : Nat, r ^ m = b) → ∃ N : L2.St → Hp → Prop, (∀ σ' H', N σ' H' → ∃ m', m' < m ∧ Wa (fun m : Nat => [some (.int (t : Int)), some (.int (b : Int)), some (.int (m : Int)), some (.int ((2 ^ (n + 1) : Nat) : Int))]) (fun (m : Nat) H' => Same H H' ∧ 1 ≤ m ∧ m ≤ n ∧ ∀ k : Nat, m < k → ¬ ((∃ r : Nat, r ^ k = t) ∧ ∃ r : Nat, r ^ k = b)) (fun m => m) m' σ' H') ∧
          tAug 2 (tC (V.int 1)) (ipI fun i j => i - j) { D with nx := N, ct := N, bk := D.nx } [some (V.int (t : Int)), some (V.int (b : Int)), some (V.int (m : Int)), some (V.int ((2 ^ (n + 1) : Nat) : Int))] H3 := by
        intro H3 S3 hn
        have m5 : 2 ≤ m := by
          rcases Nat.lt_or_ge m 2 with z | z
          · have e : m = 1 := by omega
            subst e
            exact absurd ⟨⟨t, Nat.pow_one t⟩, ⟨b, Nat.pow_one b⟩⟩ hn
          · exact z
        refine ⟨_, fun _ _ h => h, _, rfl, _, _, rfl, rfl, ?_⟩
        refine ⟨m - 1, by omega, m - 1, ?_, ⟨S3, by omega, by omega, fun k hk => ?_⟩, rfl⟩
        · have e : (m : Int) - 1 = ((m - 1 : Nat) : Int) := by omega
          show [some (V.int (t : Int)), some (V.int (b : Int)), some (V.int ((m : Int) - 1)), some (V.int ((2 ^ (n + 1) : Nat) : Int))] = _
          rw [e]
        · rcases Nat.lt_or_ge m k with z | z
          · exact m3 k z
          · have e : k = m := by omega
            subst e
            exact hn
      cases b1 with
      | false =>
        refine iteT (iteT (bad _ (S1.trans S2) fun z => ?_))
        exact Bool.noConfusion (hb.mpr z.1)
      | true =>
        refine iteF ⟨_, rfl, _, rfl, b, m, rfl, hb2, m1, m9, fun b2 H3 S3 hb' => ⟨_, rfl, ?_⟩⟩
        cases b2 with
        | false =>
          refine iteT (bad _ ((S1.trans S2).trans S3) fun z => ?_)
          exact Bool.noConfusion (hb'.mpr z.2)
        | true =>
          refine iteF ?_
          refine ⟨_, rfl, _, rfl, t, m, rfl, ht2, m1, m9, fun r1 H4 S4 hr1 => ⟨_, rfl, _, rfl, b, m, rfl, hb2, m1, m9, fun r2 H5 S5 hr2 => ⟨sz2, fun q hq => ⟨_, rfl, sz2, fun p hp => ?_⟩⟩⟩⟩
          show D.rt (.ref p) _
          rw [hD]
          refine k m r1 r2 p q _ (.inr ⟨hne, m1, hb.mp rfl, hb'.mp rfl, m3⟩) m10 hr1 hr2 (((((S1.trans S2).trans S3).trans S4).trans S5).trans ((same_new hq).trans (same_new hp))) upd_same ?_
          rw [upd_ne (ne_of_none upd_same hp), upd_same]
  refine ⟨_, rfl, rfl, _, rfl, ?_⟩
  rw [dec1]
  by_cases e1 : t = 1
  · subst e1
    rw [decide_eq_true rfl]
    refine iteT ⟨_, rfl, rfl, _, rfl, ?_⟩
    rw [dec1]
    by_cases e2 : b = 1
    · subst e2
      rw [decide_eq_true rfl]
      refine iteT ⟨sz2, fun q hq => ⟨sz2, fun p hp => ?_⟩⟩
      refine k 0 1 1 p q _ (.inl ⟨rfl, rfl, rfl⟩) (by decide) (by decide) (by decide) ((same_new hq).trans (same_new hp)) upd_same ?_
      rw [upd_ne (ne_of_none upd_same hp), upd_same]
      rfl
    · rw [decide_eq_false e2]
      exact iteF (main (fun z => e2 z.2) _ rfl)
  · rw [decide_eq_false e1]
    exact iteF (iteF (main (fun z => e1 z.1) _ rfl))
end
end Pp
-- M1
namespace Pp
/-! plans: a sign and exponents of 2, 3, 5, 7 -/
structure Plan where
  s : Int
  a : Int
  b : Int
  c : Int
  d : Int
def pr (i j k l : Nat) : Nat := 2 ^ i * 3 ^ j * 5 ^ k * 7 ^ l
def Plan.t (p : Plan) : Nat := pr p.a.toNat p.b.toNat p.c.toNat p.d.toNat
def Plan.u (p : Plan) : Nat := pr (-p.a).toNat (-p.b).toNat (-p.c).toNat (-p.d).toNat
def Plan.g (p : Plan) : Nat := Nat.gcd (Nat.gcd (Nat.gcd p.a.natAbs p.b.natAbs) p.c.natAbs) p.d.natAbs
def Plan.four (p : Plan) : Bool := decide (p.s < 0) && (decide ((p.a - 2) % 4 = 0) && (decide (p.b % 4 = 0) && (decide (p.c % 4 = 0) && decide (p.d % 4 = 0))))
structure PlanW (p : Plan) : Prop where
  s : p.s = 1 ∨ p.s = -1
  a : p.a.natAbs ≤ 20
  b : p.b.natAbs ≤ 12
  c : p.c.natAbs ≤ 12
  d : p.d.natAbs ≤ 12
structure PlanOk (p : Plan) : Prop where
  w : PlanW p
  a : p.a.natAbs ≤ 18
theorem pr_pos (i j k l : Nat) : 1 ≤ pr i j k l := Nat.mul_pos (Nat.mul_pos (Nat.mul_pos (Nat.pow_pos (by decide)) (Nat.pow_pos (by decide))) (Nat.pow_pos (by decide))) (Nat.pow_pos (by decide))
theorem pr_mono {i j k l i' j' k' l' : Nat} (h1 : i ≤ i') (h2 : j ≤ j') (h3 : k ≤ k') (h4 : l ≤ l') : pr i j k l ≤ pr i' j' k' l' :=
  Nat.mul_le_mul (Nat.mul_le_mul (Nat.mul_le_mul (Nat.pow_le_pow_right (by decide) h1) (Nat.pow_le_pow_right (by decide) h2)) (Nat.pow_le_pow_right (by decide) h3)) (Nat.pow_le_pow_right (by decide) h4)
theorem PlanW.t_lt {p : Plan} (h : PlanW p) : p.t < 2 ^ 104 := Nat.lt_of_le_of_lt (pr_mono (i' := 20) (j' := 12) (k' := 12) (l' := 12) (by have := h.a; omega) (by have := h.b; omega) (by have := h.c; omega) (by have := h.d; omega)) (by decide)
theorem PlanW.u_lt {p : Plan} (h : PlanW p) : p.u < 2 ^ 104 := Nat.lt_of_le_of_lt (pr_mono (i' := 20) (j' := 12) (k' := 12) (l' := 12) (by have := h.a; omega) (by have := h.b; omega) (by have := h.c; omega) (by have := h.d; omega)) (by decide)
theorem PlanOk.t_le {p : Plan} (h : PlanOk p) : p.t ≤ 10 ^ 30 := Nat.le_trans (pr_mono (i' := 18) (j' := 12) (k' := 12) (l' := 12) (by have := h.a; omega) (by have := h.w.b; omega) (by have := h.w.c; omega) (by have := h.w.d; omega)) (by decide)
theorem PlanOk.u_le {p : Plan} (h : PlanOk p) : p.u ≤ 10 ^ 30 := Nat.le_trans (pr_mono (i' := 18) (j' := 12) (k' := 12) (l' := 12) (by have := h.a; omega) (by have := h.w.b; omega) (by have := h.w.c; omega) (by have := h.w.d; omega)) (by decide)
theorem PlanW.g_le {p : Plan} (h : PlanW p) : p.g ≤ 20 := by
  by_cases hd : p.d.natAbs = 0
  · by_cases hc : p.c.natAbs = 0
    · by_cases hb : p.b.natAbs = 0
      · have e : p.g = p.a.natAbs := by unfold Plan.g; rw [hd, hc, hb, Nat.gcd_zero_right, Nat.gcd_zero_right, Nat.gcd_zero_right]
        rw [e]; exact h.a
      · have e : p.g = Nat.gcd p.a.natAbs p.b.natAbs := by unfold Plan.g; rw [hd, hc, Nat.gcd_zero_right, Nat.gcd_zero_right]
        rw [e]
        exact Nat.le_trans (Nat.le_trans (Nat.gcd_le_right _ (Nat.pos_of_ne_zero hb)) h.b) (by decide)
    · have e : p.g = Nat.gcd (Nat.gcd p.a.natAbs p.b.natAbs) p.c.natAbs := by unfold Plan.g; rw [hd, Nat.gcd_zero_right]
      rw [e]
      exact Nat.le_trans (Nat.le_trans (Nat.gcd_le_right _ (Nat.pos_of_ne_zero hc)) h.c) (by decide)
  · exact Nat.le_trans (Nat.le_trans (Nat.gcd_le_right _ (Nat.pos_of_ne_zero hd)) h.d) (by decide)
/-! one prime: 2, 3, 5, 7 -/
def Pr (p : Nat) : Prop := 2 ≤ p ∧ ∀ u : Nat, ¬ p ∣ u → Nat.Coprime p u
theorem pr_of {p : Nat} (h2 : 2 ≤ p) (h : ∀ d, d ≤ p → d ∣ p → d = 1 ∨ d = p) : Pr p := ⟨h2, fun u hu => by
  have d1 : Nat.gcd p u ∣ p := Nat.gcd_dvd_left p u
  rcases h _ (Nat.le_of_dvd (by omega) d1) d1 with z | z
  · exact z
  · exact absurd (z ▸ Nat.gcd_dvd_right p u) hu⟩
theorem pr2 : Pr 2 := pr_of (by decide) (by decide)
theorem pr3 : Pr 3 := pr_of (by decide) (by decide)
theorem pr5 : Pr 5 := pr_of (by decide) (by decide)
theorem pr7 : Pr 7 := pr_of (by decide) (by decide)
theorem split_off {p : Nat} (hp : Pr p) : ∀ n : Nat, 0 < n → ∃ x m, n = p ^ x * m ∧ Nat.Coprime p m := by
  intro n
  induction n using Nat.strongRecOn with
  | ind n ih =>
    intro hn
    by_cases h : p ∣ n
    · obtain ⟨m, rfl⟩ := h
      have hm : 0 < m := Nat.pos_of_ne_zero fun z => by subst z; simp at hn
      have hlt : m < p * m := by
        have := Nat.mul_lt_mul_of_pos_right (show 1 < p from hp.1) hm
        omega
      obtain ⟨x, m', e, c⟩ := ih m hlt hm
      exact ⟨x + 1, m', by rw [e, Nat.pow_succ, Nat.mul_comm (p ^ x) p, Nat.mul_assoc], c⟩
    · exact ⟨0, n, by rw [Nat.pow_zero, Nat.one_mul], hp.2 n h⟩
theorem same_exp {p : Nat} (hp : 2 ≤ p) : ∀ {x y u v : Nat}, Nat.Coprime p u → Nat.Coprime p v → p ^ x * u = p ^ y * v → x = y
  | 0, 0, _, _, _, _, _ => rfl
  | x + 1, 0, u, v, _, hv, e => by
    have d : p ∣ v := ⟨p ^ x * u, by rw [Nat.pow_zero, Nat.one_mul] at e; rw [← e, Nat.pow_succ, Nat.mul_comm (p ^ x) p, Nat.mul_assoc]⟩
    have z : p = 1 := (Nat.gcd_eq_left d).symm.trans hv
    omega
  | 0, y + 1, u, v, hu, _, e => by
    have d : p ∣ u := ⟨p ^ y * v, by rw [Nat.pow_zero, Nat.one_mul] at e; rw [e, Nat.pow_succ, Nat.mul_comm (p ^ y) p, Nat.mul_assoc]⟩
    have z : p = 1 := (Nat.gcd_eq_left d).symm.trans hu
    omega
  | x + 1, y + 1, u, v, hu, hv, e => by
    have e2 : p * (p ^ x * u) = p * (p ^ y * v) := by
      rw [← Nat.mul_assoc, ← Nat.mul_assoc, Nat.mul_comm p, Nat.mul_comm p, ← Nat.pow_succ, ← Nat.pow_succ]
      exact e
    have e3 := Nat.eq_of_mul_eq_mul_left (by omega : 0 < p) e2
    rw [same_exp hp hu hv e3]
theorem dvd_of_pow {p r k i u : Nat} (hp : Pr p) (hr : 0 < r) (hu : Nat.Coprime p u) (e : r ^ k = p ^ i * u) : k ∣ i := by
  obtain ⟨x, m, rfl, c⟩ := split_off hp r hr
  rw [Nat.mul_pow, ← Nat.pow_mul] at e
  have := same_exp hp.1 (Nat.Coprime.pow_right k c) hu e
  exact ⟨x, by rw [← this, Nat.mul_comm]⟩
theorem cop_pow {p q : Nat} (h : Nat.Coprime p q) (i : Nat) : Nat.Coprime p (q ^ i) := Nat.Coprime.pow_right i h
theorem cop_mul {p x y : Nat} (h1 : Nat.Coprime p x) (h2 : Nat.Coprime p y) : Nat.Coprime p (x * y) := Nat.Coprime.mul_right h1 h2
theorem root_dvd {r k i j l m : Nat} (e : r ^ k = pr i j l m) (hr : 0 < r) : k ∣ i ∧ k ∣ j ∧ k ∣ l ∧ k ∣ m := by
  unfold pr at e
  refine ⟨?_, ?_, ?_, ?_⟩
  · refine dvd_of_pow (u := 3 ^ j * 5 ^ l * 7 ^ m) pr2 hr (cop_mul (cop_mul (cop_pow (by decide) _) (cop_pow (by decide) _)) (cop_pow (by decide) _)) ?_
    rw [e]; simp only [Nat.mul_assoc]
  · refine dvd_of_pow (u := 2 ^ i * 5 ^ l * 7 ^ m) pr3 hr (cop_mul (cop_mul (cop_pow (by decide) _) (cop_pow (by decide) _)) (cop_pow (by decide) _)) ?_
    rw [e, Nat.mul_comm (2 ^ i) (3 ^ j)]; simp only [Nat.mul_assoc]
  · refine dvd_of_pow (u := 2 ^ i * 3 ^ j * 7 ^ m) pr5 hr (cop_mul (cop_mul (cop_pow (by decide) _) (cop_pow (by decide) _)) (cop_pow (by decide) _)) ?_
    rw [e, Nat.mul_comm (2 ^ i * 3 ^ j) (5 ^ l)]; simp only [Nat.mul_assoc]
  · refine dvd_of_pow (u := 2 ^ i * 3 ^ j * 5 ^ l) pr7 hr (cop_mul (cop_mul (cop_pow (by decide) _) (cop_pow (by decide) _)) (cop_pow (by decide) _)) ?_
    rw [e, Nat.mul_comm (2 ^ i * 3 ^ j * 5 ^ l) (7 ^ m)]
theorem pr_pow (i j l m k : Nat) : pr i j l m ^ k = pr (i * k) (j * k) (l * k) (m * k) := by
  unfold pr
  rw [Nat.mul_pow, Nat.mul_pow, Nat.mul_pow, ← Nat.pow_mul, ← Nat.pow_mul, ← Nat.pow_mul, ← Nat.pow_mul]
theorem pr_one {i j l m : Nat} (e : pr i j l m = 1) : i = 0 ∧ j = 0 ∧ l = 0 ∧ m = 0 := by
  have h : ∀ {p x : Nat}, 2 ≤ p → p ^ x = 1 → x = 0 := fun {p x} hp e => by
    cases x with
    | zero => rfl
    | succ x =>
      have : 2 ≤ p ^ (x + 1) := Nat.le_trans hp (Nat.le_self_pow (by omega) p)
      omega
  unfold pr at e
  have e1 := Nat.eq_one_of_mul_eq_one_left e
  have e2 := Nat.eq_one_of_mul_eq_one_right e
  have e3 := Nat.eq_one_of_mul_eq_one_left e2
  have e4 := Nat.eq_one_of_mul_eq_one_right e2
  have e5 := Nat.eq_one_of_mul_eq_one_left e4
  have e6 := Nat.eq_one_of_mul_eq_one_right e4
  exact ⟨h (by decide) e6, h (by decide) e5, h (by decide) e3, h (by decide) e1⟩
theorem dvd_abs {k : Nat} {x : Int} (h1 : k ∣ x.toNat) (h2 : k ∣ (-x).toNat) : k ∣ x.natAbs := by
  rcases (by omega : x.natAbs = x.toNat ∨ x.natAbs = (-x).toNat) with e | e <;> rw [e] <;> assumption
theorem dvd_pos {k : Nat} {x : Int} (h : k ∣ x.natAbs) : k ∣ x.toNat := by
  rcases (by omega : x.toNat = x.natAbs ∨ x.toNat = 0) with e | e <;> rw [e]
  · exact h
  · exact Nat.dvd_zero k
theorem dvd_neg {k : Nat} {x : Int} (h : k ∣ x.natAbs) : k ∣ (-x).toNat := by
  rcases (by omega : (-x).toNat = x.natAbs ∨ (-x).toNat = 0) with e | e <;> rw [e]
  · exact h
  · exact Nat.dvd_zero k
theorem Plan.g_dvd (p : Plan) : p.g ∣ p.a.natAbs ∧ p.g ∣ p.b.natAbs ∧ p.g ∣ p.c.natAbs ∧ p.g ∣ p.d.natAbs := by
  have h1 : p.g ∣ Nat.gcd (Nat.gcd p.a.natAbs p.b.natAbs) p.c.natAbs := Nat.gcd_dvd_left _ _
  have h2 := Nat.dvd_trans h1 (Nat.gcd_dvd_left _ _)
  exact ⟨Nat.dvd_trans h2 (Nat.gcd_dvd_left _ _), Nat.dvd_trans h2 (Nat.gcd_dvd_right _ _), Nat.dvd_trans h1 (Nat.gcd_dvd_right _ _), Nat.gcd_dvd_right _ _⟩
theorem root_of {k i j l m : Nat} (h1 : k ∣ i) (h2 : k ∣ j) (h3 : k ∣ l) (h4 : k ∣ m) : ∃ r : Nat, r ^ k = pr i j l m := by
  obtain ⟨a, rfl⟩ := h1
  obtain ⟨b, rfl⟩ := h2
  obtain ⟨c, rfl⟩ := h3
  obtain ⟨d, rfl⟩ := h4
  exact ⟨pr a b c d, by rw [pr_pow, Nat.mul_comm a, Nat.mul_comm b, Nat.mul_comm c, Nat.mul_comm d]⟩
theorem root_pos {r k x : Nat} (e : r ^ k = x) (hx : 1 ≤ x) (hk : 1 ≤ k) : 0 < r := by
  rcases Nat.eq_zero_or_pos r with rfl | h
  · rw [Nat.zero_pow (by omega)] at e; omega
  · exact h
theorem Plan.expo {p : Plan} {e : Nat} (h : IsExpo p.t p.u e) : e = p.g := by
  rcases h with ⟨h1, h2, rfl⟩ | ⟨hn, he, ⟨r, hr⟩, ⟨q, hq⟩, top⟩
  · have z1 := pr_one h1
    have z2 := pr_one h2
    have ea : p.a.natAbs = 0 := by omega
    have eb : p.b.natAbs = 0 := by omega
    have ec : p.c.natAbs = 0 := by omega
    have ed : p.d.natAbs = 0 := by omega
    unfold Plan.g
    rw [ea, eb, ec, ed]
    rfl
  · have d1 := root_dvd hr (root_pos hr (pr_pos _ _ _ _) he)
    have d2 := root_dvd hq (root_pos hq (pr_pos _ _ _ _) he)
    have dg : e ∣ p.g := Nat.dvd_gcd (Nat.dvd_gcd (Nat.dvd_gcd (dvd_abs d1.1 d2.1) (dvd_abs d1.2.1 d2.2.1)) (dvd_abs d1.2.2.1 d2.2.2.1)) (dvd_abs d1.2.2.2 d2.2.2.2)
    have gd := p.g_dvd
    have gp : 0 < p.g := by
      rcases Nat.eq_zero_or_pos p.g with z | z
      · rw [z] at gd
        obtain ⟨a, b, c, d⟩ := gd
        have a := Nat.eq_zero_of_zero_dvd a
        have b := Nat.eq_zero_of_zero_dvd b
        have c := Nat.eq_zero_of_zero_dvd c
        have d := Nat.eq_zero_of_zero_dvd d
        refine absurd ⟨?_, ?_⟩ hn
        · show pr _ _ _ _ = 1
          rw [(by omega : p.a.toNat = 0), (by omega : p.b.toNat = 0), (by omega : p.c.toNat = 0), (by omega : p.d.toNat = 0)]
          rfl
        · show pr _ _ _ _ = 1
          rw [(by omega : (-p.a).toNat = 0), (by omega : (-p.b).toNat = 0), (by omega : (-p.c).toNat = 0), (by omega : (-p.d).toNat = 0)]
          rfl
      · exact z
    have le := Nat.le_of_dvd gp dg
    rcases Nat.lt_or_ge e p.g with z | z
    · exact absurd ⟨root_of (dvd_pos gd.1) (dvd_pos gd.2.1) (dvd_pos gd.2.2.1) (dvd_pos gd.2.2.2), root_of (dvd_neg gd.1) (dvd_neg gd.2.1) (dvd_neg gd.2.2.1) (dvd_neg gd.2.2.2)⟩ (top _ z)
    · omega
/-! no common divisor -/
theorem cop_side {p i i' : Nat} (h : i = 0 ∨ i' = 0) : Nat.Coprime (p ^ i) (p ^ i') := by
  rcases h with rfl | rfl
  · rw [Nat.pow_zero]; exact Nat.coprime_one_left _
  · rw [Nat.pow_zero]; exact Nat.coprime_one_right _
theorem cop_pp {p q : Nat} (h : Nat.Coprime p q) (i j : Nat) : Nat.Coprime (p ^ i) (q ^ j) := Nat.Coprime.pow i j h
theorem cop_mulL {p x y : Nat} (h1 : Nat.Coprime x p) (h2 : Nat.Coprime y p) : Nat.Coprime (x * y) p := Nat.Coprime.mul_left h1 h2
theorem pr_cop {i j l m i' j' l' m' : Nat} (h1 : i = 0 ∨ i' = 0) (h2 : j = 0 ∨ j' = 0) (h3 : l = 0 ∨ l' = 0) (h4 : m = 0 ∨ m' = 0) : Nat.Coprime (pr i j l m) (pr i' j' l' m') := by
  unfold pr
  refine cop_mulL (cop_mulL (cop_mulL ?_ ?_) ?_) ?_
  · exact cop_mul (cop_mul (cop_mul (cop_side h1) (cop_pp (by decide) _ _)) (cop_pp (by decide) _ _)) (cop_pp (by decide) _ _)
  · exact cop_mul (cop_mul (cop_mul (cop_pp (by decide) _ _) (cop_side h2)) (cop_pp (by decide) _ _)) (cop_pp (by decide) _ _)
  · exact cop_mul (cop_mul (cop_mul (cop_pp (by decide) _ _) (cop_pp (by decide) _ _)) (cop_side h3)) (cop_pp (by decide) _ _)
  · exact cop_mul (cop_mul (cop_mul (cop_pp (by decide) _ _) (cop_pp (by decide) _ _)) (cop_pp (by decide) _ _)) (cop_side h4)
theorem Plan.cop (p : Plan) : Nat.gcd p.t p.u = 1 := pr_cop (by omega) (by omega) (by omega) (by omega)
/-- minus a fourth -/
def Plan.q (p : Plan) : Plan := ⟨1, p.a - 2, p.b, p.c, p.d⟩
theorem PlanOk.q {p : Plan} (h : PlanOk p) : PlanW p.q := ⟨.inl rfl, by show (p.a - 2).natAbs ≤ 20; have := h.a; omega, h.w.b, h.w.c, h.w.d⟩
theorem lowest_of {x y g t u : Nat} (h1 : x = g * t) (h2 : y = g * u) (hc : Nat.gcd t u = 1) (hg : 0 < g) : x / Nat.gcd x y = t ∧ y / Nat.gcd x y = u := by
  subst h1
  subst h2
  rw [Nat.gcd_mul_left, hc, Nat.mul_one, Nat.mul_div_cancel_left _ hg, Nat.mul_div_cancel_left _ hg]
  exact ⟨rfl, rfl⟩
theorem pr_two (x i j l m : Nat) : pr (i + x) j l m = 2 ^ x * pr i j l m := by
  unfold pr
  rw [Nat.pow_add, Nat.mul_comm (2 ^ i) (2 ^ x)]
  simp only [Nat.mul_assoc]
theorem Plan.lowest (p : Plan) : p.t / Nat.gcd p.t (4 * p.u) = p.q.t ∧ 4 * p.u / Nat.gcd p.t (4 * p.u) = p.q.u := by
  have hc := p.q.cop
  have et : p.q.t = pr (p.a - 2).toNat p.b.toNat p.c.toNat p.d.toNat := rfl
  have eu : p.q.u = pr (-(p.a - 2)).toNat (-p.b).toNat (-p.c).toNat (-p.d).toNat := rfl
  have et' : p.t = pr p.a.toNat p.b.toNat p.c.toNat p.d.toNat := rfl
  have eu' : p.u = pr (-p.a).toNat (-p.b).toNat (-p.c).toNat (-p.d).toNat := rfl
  rcases (by omega : 2 ≤ p.a ∨ p.a = 1 ∨ p.a ≤ 0) with h | h | h
  · refine lowest_of (g := 4) ?_ ?_ hc (by decide)
    · rw [et, et', (by omega : p.a.toNat = (p.a - 2).toNat + 2), pr_two 2]
    · rw [eu, eu', (by omega : (-(p.a - 2)).toNat = (-p.a).toNat)]
  · refine lowest_of (g := 2) ?_ ?_ hc (by decide)
    · rw [et, et', (by omega : p.a.toNat = (p.a - 2).toNat + 1), pr_two 1]
    · rw [eu, eu', (by omega : (-(p.a - 2)).toNat = (-p.a).toNat + 1), pr_two 1]
      omega
  · refine lowest_of (g := 1) ?_ ?_ hc (by decide)
    · rw [et, et', Nat.one_mul, (by omega : p.a.toNat = (p.a - 2).toNat)]
    · rw [eu, eu', Nat.one_mul, (by omega : (-(p.a - 2)).toNat = (-p.a).toNat + 2), pr_two 2]
theorem int_mod4 {x : Int} : x % 4 = 0 ↔ 4 ∣ x.natAbs := by omega
theorem Plan.four_iff {p : Plan} (hs : p.s < 0) : p.four = true ↔ p.q.g % 4 = 0 := by
  have gd := p.q.g_dvd
  constructor
  · intro h
    unfold Plan.four at h
    simp only [Bool.and_eq_true, decide_eq_true_eq] at h
    obtain ⟨_, h1, h2, h3, h4⟩ := h
    refine Nat.mod_eq_zero_of_dvd ?_
    exact Nat.dvd_gcd (Nat.dvd_gcd (Nat.dvd_gcd (int_mod4.mp h1) (int_mod4.mp h2)) (int_mod4.mp h3)) (int_mod4.mp h4)
  · intro h
    have d := Nat.dvd_of_mod_eq_zero h
    unfold Plan.four
    simp only [Bool.and_eq_true, decide_eq_true_eq]
    exact ⟨hs, int_mod4.mpr (Nat.dvd_trans d gd.1), int_mod4.mpr (Nat.dvd_trans d gd.2.1), int_mod4.mpr (Nat.dvd_trans d gd.2.2.1), int_mod4.mpr (Nat.dvd_trans d gd.2.2.2)⟩
theorem Plan.four_neg {p : Plan} (hs : ¬ p.s < 0) : p.four = false := by
  unfold Plan.four
  rw [decide_eq_false hs]
  rfl
/-! the odd part -/
def oddIt : Nat → Nat → Nat
  | 0, n => n
  | k + 1, n => oddIt k (if n % 2 = 0 then n / 2 else n)
def oddP (n : Nat) : Nat := oddIt 100 n
def IsOdd (n r : Nat) : Prop := r % 2 = 1 ∧ ∃ j, n = 2 ^ j * r
theorem oddIt_ok : ∀ (k n : Nat), 1 ≤ n → n < 2 ^ k → IsOdd n (oddIt k n)
  | 0, n, h1, h2 => by rw [Nat.pow_zero] at h2; omega
  | k + 1, n, h1, h2 => by
    rw [Nat.pow_succ] at h2
    unfold oddIt
    by_cases h : n % 2 = 0
    · rw [if_pos h]
      obtain ⟨r1, j, e⟩ := oddIt_ok k (n / 2) (by omega) (by omega)
      refine ⟨r1, j + 1, ?_⟩
      rw [Nat.pow_succ, Nat.mul_comm (2 ^ j) 2, Nat.mul_assoc, ← e]
      omega
    · rw [if_neg h]
      have : ∀ (k n : Nat), n % 2 = 1 → oddIt k n = n := by
        intro k
        induction k with
        | zero => intro n _; rfl
        | succ k ih => intro n hn; unfold oddIt; rw [if_neg (by omega)]; exact ih n hn
      rw [this k n (by omega)]
      exact ⟨by omega, 0, by omega⟩
theorem isOdd_uniq {n r q : Nat} (h1 : IsOdd n r) (h2 : IsOdd n q) : r = q := by
  obtain ⟨o1, i, e1⟩ := h1
  obtain ⟨o2, j, e2⟩ := h2
  have c : ∀ x : Nat, x % 2 = 1 → Nat.Coprime 2 x := fun x hx => pr2.2 x (by omega)
  have ij := same_exp (by decide : 2 ≤ 2) (c r o1) (c q o2) (e1.symm.trans e2)
  subst ij
  exact Nat.eq_of_mul_eq_mul_left (Nat.pow_pos (by decide)) (e1.symm.trans e2)
theorem isOdd_P {n r : Nat} (h : IsOdd n r) (h1 : 1 ≤ n) (h2 : n < 2 ^ 100) : r = oddP n := isOdd_uniq h (oddIt_ok 100 n h1 h2)
/-! what a number's equations do -/
def Plan.splits (p : Plan) (n : Nat) : Bool := decide (1 < Nat.gcd (if 0 < p.s then n else oddP n) p.g) || (decide (n % 4 = 0) && p.four)
def Plan.always (p : Plan) : Bool := if 0 < p.s then decide (p.g = 1) else decide (0 < p.g) && (decide (oddP p.g = 1) && !p.four)
def primesP (s : Int) (g : Nat) : List Int := ([2, 3, 5, 7, 11, 13, 17, 19] : List Int).filter fun q => decide ((g : Int) % q = 0) && (decide (0 < s) || decide (2 < q))
def Plan.kind (p : Plan) : Int × Option (List Int) × Bool := (p.s, if p.g = 0 then none else some (primesP p.s p.g), p.four)
end Pp
-- A3
namespace Pp
open PySem PySem.Spec PyProof.Rows L2
/-- at a: the number of a plan -/
def NumAt (H : Hp) (a : Addr) (p : Plan) : Prop := H a = some (.tup [.int (p.s * (p.t : Int)), .int (p.u : Int)])
theorem NumAt.on {H H' : Hp} {a : Addr} {p : Plan} (h : NumAt H a p) (S : Same H H') : NumAt H' a p := S _ _ h
theorem PlanW.abs {p : Plan} (h : PlanW p) : (if p.s * (p.t : Int) < 0 then -(p.s * (p.t : Int)) else p.s * (p.t : Int)) = (p.t : Int) := by
  have ht : 1 ≤ p.t := pr_pos _ _ _ _
  rcases h.s with e | e <;> rw [e]
  · rw [Int.one_mul, if_neg (by omega)]
  · rw [Int.neg_mul, Int.one_mul, if_pos (by omega)]
    omega
theorem PlanW.neg_iff {p : Plan} (h : PlanW p) : p.s * (p.t : Int) < 0 ↔ p.s < 0 := by
  have ht : 1 ≤ p.t := pr_pos _ _ _ _
  rcases h.s with e | e <;> rw [e]
  · rw [Int.one_mul]; omega
  · rw [Int.neg_mul, Int.one_mul]; omega
theorem PlanW.pos_iff {p : Plan} (h : PlanW p) : 0 < p.s * (p.t : Int) ↔ 0 < p.s := by
  have ht : 1 ≤ p.t := pr_pos _ _ _ _
  rcases h.s with e | e <;> rw [e]
  · rw [Int.one_mul]; omega
  · rw [Int.neg_mul, Int.one_mul]; omega
theorem lt200 {n : Nat} (h : n < 2 ^ 104) : n < 2 ^ 200 := Nat.lt_trans h (by decide)
abbrev s_base_for : Stmt := top 33
theorem sc_base_for : FnScope ["number"] ["number"] (defScope s_base_for) := ⟨rfl, rfl, rfl, by decide +kernel, rfl, by decide +kernel, by decide +kernel⟩
abbrev N_base_for : List Str := ["number"]
def spBaseFor : Sp := fun vs H Q _ => ∃ (a : Addr) (p : Plan), vs = [.ref a] ∧ NumAt H a p ∧ PlanW p ∧
  ∀ (r1 r2 : Nat) (q1 q2 : Addr) (H' : Hp), r1 < 2 ^ 202 → r2 < 2 ^ 202 → Same H H' → H' q1 = some (.tup [.ref q2, .int (p.g : Int)]) → H' q2 = some (.tup [.int r1, .int r2]) → Q (.ref q1) H'
section
variable {P : Program} {w : World} {K : PySem.W.Frag} {mg : Str → Option Value} {base : Heap}
theorem d_base_for (F : At K mg "base_for" s_base_for) (B : Blt mg) (D_base_and_exponent : Dn P w K mg base CX0 4 "base_and_exponent" ["top", "bottom"] spBE) : Dn P w K mg base CX0 5 "base_for" ["number"] spBaseFor := by
  refine F.ok sc_base_for (fun vs H Q E h => ?_) (fun _ _ _ _ _ _ us hl => match us, hl with | [_], _ => rfl) (fun f cdv A outer s H vs Q E hr h => ?_)
  · obtain ⟨_, _, rfl, _⟩ := h
    rfl
  obtain ⟨a, p, rfl, ha, hp, k⟩ := h
  refine ⟨_, (pss_one (ps_ret (pe_fn D_base_and_exponent hr (by decide) rfl (pa_cons (pe_callB call_abs (by rfl) B.abs (by decide +kernel) (pa_cons (pe_ix (r := rIxT K) ix_tup (pv 0) pe_int (fun _ _ => rfl)) pa_nil)) (pa_cons (pe_ix (r := rIxT K) ix_tup (pv 0) pe_int (fun _ _ => rfl)) pa_nil))))), ?_⟩
  refine ⟨_, rfl, a, _, 0, _, rfl, rfl, SqT.of ha, rfl, _, rfl, ?_⟩
  rw [hp.abs]
  refine ⟨_, rfl, a, _, 1, _, rfl, rfl, SqT.of ha, rfl, p.t, p.u, rfl, pr_pos _ _ _ _, lt200 hp.t_lt, pr_pos _ _ _ _, lt200 hp.u_lt, fun e r1 r2 q1 q2 H' he _ h1 h2 S hq1 hq2 => ?_⟩
  have e' := p.expo he
  subst e'
  exact k r1 r2 q1 q2 H' h1 h2 S hq1 hq2
end
abbrev s_lowest : Stmt := top 29
theorem sc_lowest : FnScope ["top", "bottom", "common"] ["top", "bottom"] (defScope s_lowest) := ⟨rfl, rfl, rfl, by decide +kernel, rfl, by decide +kernel, by decide +kernel⟩
abbrev N_lowest : List Str := ["top", "bottom", "common"]
def spLowest : Sp := fun vs H Q _ => ∃ (t u : Nat), vs = [.int t, .int u] ∧ 1 ≤ t ∧ t < 2 ^ 200 ∧ 1 ≤ u ∧ u < 2 ^ 200 ∧ ∀ (q : Addr) (H' : Hp), Same H H' → H' q = some (.tup [.int ((t / Nat.gcd t u : Nat) : Int), .int ((u / Nat.gcd t u : Nat) : Int)]) → Q (.ref q) H'
section
variable {P : Program} {w : World} {K : PySem.W.Frag} {mg : Str → Option Value} {base : Heap}
theorem abs_nat (t : Nat) : (if (t : Int) < 0 then -(t : Int) else (t : Int)) = (t : Int) := if_neg (by omega)
theorem d_lowest (F : At K mg "lowest" s_lowest) (B : Blt mg) (D_common_divisor : Dn P w K mg base CX0 1 "common_divisor" ["one", "other"] spGcd) : Dn P w K mg base CX0 2 "lowest" ["top", "bottom"] spLowest := by
  refine F.ok sc_lowest (fun vs H Q E h => ?_) (fun _ _ _ _ _ _ us hl => match us, hl with | [_, _], _ => rfl) (fun f cdv A outer s H vs Q E hr h => ?_)
  · obtain ⟨_, _, rfl, _⟩ := h
    rfl
  obtain ⟨t, u, rfl, t1, t2, u1, u2, k⟩ := h
  refine ⟨_, (pss_cons (ps_set (i := 2) sc_lowest.nd rfl (.inl rfl) (pe_fn D_common_divisor hr (by decide) rfl (pa_cons (pe_callB call_abs (by rfl) B.abs (by decide +kernel) (pa_cons (pv 0) pa_nil)) (pa_cons (pv 1) pa_nil))))
  (pss_one (ps_ret (pe_tup (pa_cons (pe_op op_fdivW (pv 0) (pv 2)) (pa_cons (pe_op op_fdivW (pv 1) (pv 2)) pa_nil)))))), ?_⟩
  refine ⟨_, rfl, _, rfl, ?_⟩
  rw [abs_nat]
  have gp : 0 < Nat.gcd t u := Nat.gcd_pos_of_pos_left _ t1
  have gl : Nat.gcd t u < 2 ^ 200 := Nat.lt_of_le_of_lt (Nat.gcd_le_left _ t1) t2
  have dv : ∀ i : Int, CDivW i ((Nat.gcd t u : Nat) : Int) := fun i => wide_div (b := 200) (by omega) (by rw [Int.natAbs_natCast]; exact gl) (by decide) (by decide)
  refine ⟨_, rfl, t, u, rfl, ?_⟩
  exact ⟨_, rfl, _, rfl, _, _, rfl, rfl, dv _, _, rfl, _, rfl, _, _, rfl, rfl, dv _, sz2, fun q hq => k q _ (same_new hq) upd_same⟩
end
abbrev s_raised : Stmt := top 30
theorem sc_raised : FnScope ["number", "power"] ["number", "power"] (defScope s_raised) := ⟨rfl, rfl, rfl, by decide +kernel, rfl, by decide +kernel, by decide +kernel⟩
abbrev N_raised : List Str := ["number", "power"]
def spRaised : Sp := fun vs H Q _ => ∃ (a : Addr) (x y n : Nat), vs = [.ref a, .int n] ∧ H a = some (.tup [.int x, .int y]) ∧ x < 2 ^ 202 ∧ y < 2 ^ 202 ∧ n ≤ 1000 ∧ ∀ (q : Addr) (i j : Int) (H' : Hp), Same H H' → H' q = some (.tup [.int i, .int j]) → Q (.ref q) H'
section
variable {P : Program} {w : World} {K : PySem.W.Frag} {mg : Str → Option Value} {base : Heap}
theorem lt400 {n : Nat} (h : n < 2 ^ 202) : ((n : Int)).natAbs < 2 ^ 400 := by
  rw [Int.natAbs_natCast]
  exact Nat.lt_trans h (by decide)
theorem d_raised (F : At K mg "raised" s_raised) (D_power_of : Dn P w K mg base CX0 1 "power_of" ["base", "many"] spPow) : Dn P w K mg base CX0 2 "raised" ["number", "power"] spRaised := by
  refine F.ok sc_raised (fun vs H Q E h => ?_) (fun _ _ _ _ _ _ us hl => match us, hl with | [_, _], _ => rfl) (fun f cdv A outer s H vs Q E hr h => ?_)
  · obtain ⟨_, _, _, _, rfl, _⟩ := h
    rfl
  obtain ⟨a, x, y, n, rfl, ha, hx, hy, hn, k⟩ := h
  refine ⟨_, (pss_one (ps_ret (pe_tup (pa_cons (pe_fn D_power_of hr (by decide) rfl (pa_cons (pe_ix (r := rIxT K) ix_tup (pv 0) pe_int (fun _ _ => rfl)) (pa_cons (pv 1) pa_nil))) (pa_cons (pe_fn D_power_of hr (by decide) rfl (pa_cons (pe_ix (r := rIxT K) ix_tup (pv 0) pe_int (fun _ _ => rfl)) (pa_cons (pv 1) pa_nil))) pa_nil))))), ?_⟩
  exact ⟨_, rfl, a, _, 0, _, rfl, rfl, SqT.of ha, rfl, _, rfl, x, n, rfl, hn, lt400 hx, _, rfl, a, _, 1, _, rfl, rfl, SqT.of ha, rfl, _, rfl, y, n, rfl, hn, lt400 hy, sz2, fun q hq => k q _ _ _ (same_new hq) upd_same⟩
end
abbrev s_root_for : Stmt := top 34
theorem sc_root_for : FnScope ["number", "n", "base", "power", "found"] ["number", "n"] (defScope s_root_for) := ⟨rfl, rfl, rfl, by decide +kernel, rfl, by decide +kernel, by decide +kernel⟩
abbrev N_root_for : List Str := ["number", "n", "base", "power", "found"]
def spRoot4 : Sp := fun vs H Q _ => ∃ (a : Addr) (p : Plan), vs = [.ref a, .int 4] ∧ NumAt H a p ∧ PlanW p ∧ p.s = 1 ∧ ∀ (v : V) (H' : Hp), Same H H' → decide (v = .non) = !decide (p.g % 4 = 0) → Q v H'
section
variable {P : Program} {w : World} {K : PySem.W.Frag} {mg : Str → Option Value} {base : Heap}
theorem d_root_for (F : At K mg "root_for" s_root_for) (D_base_for : Dn P w K mg base CX0 5 "base_for" ["number"] spBaseFor) (D_raised : Dn P w K mg base CX0 2 "raised" ["number", "power"] spRaised) : Dn P w K mg base CX0 6 "root_for" ["number", "n"] spRoot4 := by
  refine F.ok sc_root_for (fun vs H Q E h => ?_) (fun _ _ _ _ _ _ us hl => match us, hl with | [_, _], _ => rfl) (fun f cdv A outer s H vs Q E hr h => ?_)
  · obtain ⟨_, _, rfl, _⟩ := h
    rfl
  obtain ⟨a, p, rfl, ha, hp, hs, k⟩ := h
  refine ⟨_, (pss_cons (ps_asg (pe_fn D_base_for hr (by decide) rfl (pa_cons (pv 0) pa_nil)) (pg_tup rfl (pgs_cons (pg_name (i := 2) sc_root_for.nd rfl (.inl rfl)) (pgs_cons (pg_name (i := 3) sc_root_for.nd rfl (.inl rfl)) pgs_nil))))
  (pss_cons (ps_if (PW.pt (pw_or (pt_cmpR op_ne (pe_op op_mod (pv 3) (pv 1)) pe_int (nomark _)) (pw_or1 (PW.pt (pw_and (pt_cmpR op_lt (pe_ix (r := rIxT K) ix_tup (pv 0) pe_int (fun _ _ => rfl)) pe_int (nomark _)) (pw_and1 (pt_cmpR op_eq (pe_op op_mod (pv 1) pe_int) pe_int (nomark _)))))))) (pss_one (ps_ret pe_non)) pss_nil)
  (pss_cons (ps_set (i := 4) sc_root_for.nd rfl (.inl rfl) (pe_fn D_raised hr (by decide) rfl (pa_cons (pv 2) (pa_cons (pe_op op_fdivW (pv 3) (pv 1)) pa_nil))))
  (pss_one (ps_ret (pe_ifExp (pt_cmpR op_gt (pe_ix (r := rIxT K) ix_tup (pv 0) pe_int (fun _ _ => rfl)) pe_int (nomark _)) (pv 4) (pe_tup (pa_cons (pe_un un_neg (pe_ix (r := rIxT K) ix_tup (pv 4) pe_int (fun _ _ => rfl))) (pa_cons (pe_ix (r := rIxT K) ix_tup (pv 4) pe_int (fun _ _ => rfl)) pa_nil))))))))), ?_⟩
  refine ⟨_, rfl, a, p, rfl, ha, hp, fun r1 r2 q1 q2 H1 h1 h2 S1 hq1 hq2 => ⟨q1, _, rfl, SqT.of hq1, rfl, _, _, rfl, _, _, rfl, rfl, ?_⟩⟩
  have hn : ¬ p.s * (p.t : Int) < 0 := fun z => by
    have := hp.neg_iff.mp z
    omega
  have hpos : 0 < p.s * (p.t : Int) := hp.pos_iff.mpr (by omega)
  have gl := hp.g_le
  refine ⟨_, rfl, _, rfl, _, _, rfl, rfl, (by show (0 : Int) < 4; decide), rfl, _, rfl, ?_⟩
  have em : ((p.g : Int) % 4) = ((p.g % 4 : Nat) : Int) := by omega
  by_cases c : p.g % 4 = 0
  · have e : (!decide (V.int ((p.g : Int) % 4) = V.int 0)) = false := by
      rw [em, c]; rfl
    rw [e]
    refine iteF ⟨_, rfl, a, _, 0, _, rfl, rfl, SqT.of (ha.on S1), rfl, _, _, rfl, rfl, _, rfl, ?_⟩
    rw [decide_eq_false hn]
    refine iteF (iteF ⟨_, rfl, _, rfl, _, rfl, _, _, rfl, rfl, wide_div (b := 3) (by decide) (by decide) (by decide) (by decide), ?_⟩)
    have ed : ((p.g : Int) / 4) = ((p.g / 4 : Nat) : Int) := by omega
    refine ⟨q2, r1, r2, p.g / 4, ?_, hq2, h1, h2, by omega, fun q i j H2 S2 hq => ?_⟩
    · show [V.ref q2, V.int ((p.g : Int) / 4)] = _
      rw [ed]
    refine ⟨_, rfl, a, _, 0, _, rfl, rfl, SqT.of (ha.on (S1.trans S2)), rfl, _, _, rfl, rfl, _, rfl, ?_⟩
    rw [decide_eq_true hpos]
    refine iteT ⟨_, rfl, ?_⟩
    exact k _ _ (S1.trans S2) (by rw [decide_eq_false (fun z : V.ref q = V.non => nomatch z), decide_eq_true c]; rfl)
  · have e : (!decide (V.int ((p.g : Int) % 4) = V.int 0)) = true := by
      rw [decide_eq_false (fun z => c (by injection z with z; omega))]; rfl
    rw [e]
    refine iteT (iteT ?_)
    exact k _ _ S1 (by rw [decide_eq_true rfl, decide_eq_false c]; rfl)
end
abbrev s_four_for : Stmt := top 35
theorem sc_four_for : FnScope ["number"] ["number"] (defScope s_four_for) := ⟨rfl, rfl, rfl, by decide +kernel, rfl, by decide +kernel, by decide +kernel⟩
abbrev N_four_for : List Str := ["number"]
def spFour : Sp := fun vs H Q _ => ∃ (a : Addr) (p : Plan), vs = [.ref a] ∧ NumAt H a p ∧ PlanOk p ∧ ∀ (v : V) (H' : Hp), Same H H' → decide (v = .non) = !p.four → Q v H'
section
variable {P : Program} {w : World} {K : PySem.W.Frag} {mg : Str → Option Value} {base : Heap}
theorem d_four_for (F : At K mg "four_for" s_four_for) (D_lowest : Dn P w K mg base CX0 2 "lowest" ["top", "bottom"] spLowest) (D_root_for : Dn P w K mg base CX0 6 "root_for" ["number", "n"] spRoot4) : Dn P w K mg base CX0 7 "four_for" ["number"] spFour := by
  refine F.ok sc_four_for (fun vs H Q E h => ?_) (fun _ _ _ _ _ _ us hl => match us, hl with | [_], _ => rfl) (fun f cdv A outer s H vs Q E hr h => ?_)
  · obtain ⟨_, _, rfl, _⟩ := h
    rfl
  obtain ⟨a, p, rfl, ha, hp, k⟩ := h
  refine ⟨_, (pss_one (ps_ret (pe_ifExp (pt_cmpR op_lt (pe_ix (r := rIxT K) ix_tup (pv 0) pe_int (fun _ _ => rfl)) pe_int (nomark _)) (pe_fn D_root_for hr (by decide) rfl (pa_cons (pe_fn D_lowest hr (by decide) rfl (pa_cons (pe_un un_neg (pe_ix (r := rIxT K) ix_tup (pv 0) pe_int (fun _ _ => rfl))) (pa_cons (pe_op op_mulW pe_int (pe_ix (r := rIxT K) ix_tup (pv 0) pe_int (fun _ _ => rfl))) pa_nil))) (pa_cons pe_int pa_nil))) pe_non))), ?_⟩
  refine ⟨_, rfl, a, _, 0, _, rfl, rfl, SqT.of ha, rfl, _, _, rfl, rfl, _, rfl, ?_⟩
  by_cases c : p.s < 0
  · rw [decide_eq_true (hp.w.neg_iff.mpr c)]
    have es : p.s = -1 := by rcases hp.w.s with e | e <;> omega
    have et : -(p.s * (p.t : Int)) = ((p.t : Nat) : Int) := by rw [es, Int.neg_mul, Int.one_mul, Int.neg_neg]
    have ul := hp.w.u_lt
    have u4 : 4 * p.u < 2 ^ 200 := by
      have : 4 * 2 ^ 104 < 2 ^ 200 := by decide
      omega
    have u1 : 1 ≤ p.u := pr_pos _ _ _ _
    refine iteT ⟨_, rfl, a, _, 0, _, rfl, rfl, SqT.of ha, rfl, _, rfl, _, rfl, a, _, 1, _, rfl, rfl, SqT.of ha, rfl, _, _, rfl, rfl, wide_mul (a := 3) (b := 104) (by decide) (by rw [Int.natAbs_natCast]; exact ul) (by decide) (by decide) (by decide), p.t, 4 * p.u, ?_, pr_pos _ _ _ _, lt200 hp.w.t_lt, by omega, u4, fun q H1 S1 hq => ?_⟩
    · show [V.int (-(p.s * (p.t : Int))), V.int (4 * (p.u : Int))] = _
      rw [et]
      rfl
    rw [p.lowest.1, p.lowest.2] at hq
    refine ⟨q, p.q, rfl, ?_, hp.q, rfl, fun v H2 S2 hv => k v H2 (S1.trans S2) ?_⟩
    · show H1 q = some (.tup [.int (1 * (p.q.t : Int)), .int (p.q.u : Int)])
      rw [Int.one_mul]
      exact hq
    · rw [hv]
      have z := Plan.four_iff c
      cases hf : p.four with
      | true => rw [decide_eq_true (z.mp hf)]
      | false => rw [decide_eq_false (fun y => by have := z.mpr y; rw [hf] at this; cases this)]
  · rw [decide_eq_false (fun z => c (hp.w.neg_iff.mp z))]
    refine iteF ?_
    exact k _ _ (Same.refl _) (by rw [decide_eq_true rfl, Plan.four_neg c]; rfl)
end
abbrev s_odd_part : Stmt := top 42
theorem sc_odd_part : FnScope ["value"] ["value"] (defScope s_odd_part) := ⟨rfl, rfl, rfl, by decide +kernel, rfl, by decide +kernel, by decide +kernel⟩
abbrev N_odd_part : List Str := ["value"]
def spOdd : Sp := fun vs H Q _ => ∃ (n : Nat), vs = [.int n] ∧ 1 ≤ n ∧ n < 2 ^ 100 ∧ Q (.int (oddP n : Nat)) H
section
variable {P : Program} {w : World} {K : PySem.W.Frag} {mg : Str → Option Value} {base : Heap}
theorem d_odd_part (F : At K mg "odd_part" s_odd_part) : Dn P w K mg base CX0 1 "odd_part" ["value"] spOdd := by
  refine F.ok sc_odd_part (fun vs H Q E h => ?_) (fun _ _ _ _ _ _ us hl => match us, hl with | [_], _ => rfl) (fun f cdv A outer s H vs Q E hr h => ?_)
  · obtain ⟨_, rfl, _⟩ := h
    rfl
  obtain ⟨n, rfl, n1, n2, k⟩ := h
  refine ⟨_, (pss_cons (ps_while PassesOwn.never (pt_cmpR op_eq (pe_op op_mod (pv 0) pe_int) pe_int (nomark _)) (pss_one (ps_set (i := 0) sc_odd_part.nd rfl (.inl rfl) (pe_op op_fdivW (pv 0) pe_int))))
  (pss_one (ps_ret (pv 0)))), ?_⟩
  refine while_a (α := Nat) (fun m => [some (.int (m : Int))]) (fun m H' => H' = H ∧ 1 ≤ m ∧ ∃ j, n = 2 ^ j * m) (fun m => m) n rfl ⟨rfl, n1, 0, by rw [Nat.pow_zero, Nat.one_mul]⟩ ?_
  rintro m H' ⟨rfl, m1, j, hj⟩
  refine ⟨_, rfl, _, _, rfl, rfl, (by show (0 : Int) < 2; decide), rfl, _, rfl, ?_⟩
  have em : ((m : Int) % 2) = ((m % 2 : Nat) : Int) := by omega
  have ed : ((m : Int) / 2) = ((m / 2 : Nat) : Int) := by omega
  by_cases c : m % 2 = 0
  · have e : decide (V.int ((m : Int) % 2) = V.int 0) = true := by rw [em, c]; rfl
    rw [e]
    refine iteT ⟨_, fun _ _ h => h, ?_⟩
    refine ⟨_, rfl, _, _, rfl, rfl, wide_div (b := 3) (by decide) (by decide) (by decide) (by decide), ?_⟩
    refine ⟨m / 2, by omega, m / 2, ?_, ⟨rfl, by omega, j + 1, ?_⟩, rfl⟩
    · show [some (V.int ((m : Int) / 2))] = _
      rw [ed]
    · rw [Nat.pow_succ, Nat.mul_assoc, hj, (by omega : 2 * (m / 2) = m)]
  · have e : decide (V.int ((m : Int) % 2) = V.int 0) = false := decide_eq_false fun z => c (by injection z with z; omega)
    rw [e]
    refine iteF ⟨_, rfl, ?_⟩
    have := isOdd_P (n := n) (r := m) ⟨by omega, j, hj⟩ n1 n2
    show Q (.int (m : Int)) H'
    rw [this]
    exact k
end
abbrev s_shared : Stmt := top 43
theorem sc_shared : FnScope ["number", "n"] ["number", "n"] (defScope s_shared) := ⟨rfl, rfl, rfl, by decide +kernel, rfl, by decide +kernel, by decide +kernel⟩
abbrev N_shared : List Str := ["number", "n"]
def spShared : Sp := fun vs H Q _ => ∃ (a : Addr) (p : Plan) (n : Nat), vs = [.ref a, .int n] ∧ NumAt H a p ∧ PlanW p ∧ 1 ≤ n ∧ n < 2 ^ 100 ∧ ∀ H', Same H H' → Q (.int (Nat.gcd (if 0 < p.s then n else oddP n) p.g : Nat)) H'
section
variable {P : Program} {w : World} {K : PySem.W.Frag} {mg : Str → Option Value} {base : Heap}
theorem d_shared (F : At K mg "shared" s_shared) (D_common_divisor : Dn P w K mg base CX0 1 "common_divisor" ["one", "other"] spGcd) (D_odd_part : Dn P w K mg base CX0 1 "odd_part" ["value"] spOdd) (D_base_for : Dn P w K mg base CX0 5 "base_for" ["number"] spBaseFor) : Dn P w K mg base CX0 6 "shared" ["number", "n"] spShared := by
  refine F.ok sc_shared (fun vs H Q E h => ?_) (fun _ _ _ _ _ _ us hl => match us, hl with | [_, _], _ => rfl) (fun f cdv A outer s H vs Q E hr h => ?_)
  · obtain ⟨_, _, _, rfl, _⟩ := h
    rfl
  obtain ⟨a, p, n, rfl, ha, hp, n1, n2, k⟩ := h
  refine ⟨_, (pss_one (ps_ret (pe_fn D_common_divisor hr (by decide) rfl (pa_cons (pe_ifExp (pt_cmpR op_gt (pe_ix (r := rIxT K) ix_tup (pv 0) pe_int (fun _ _ => rfl)) pe_int (nomark _)) (pv 1) (pe_fn D_odd_part hr (by decide) rfl (pa_cons (pv 1) pa_nil))) (pa_cons (pe_ix (r := rIxT K) ix_tup (pe_fn D_base_for hr (by decide) rfl (pa_cons (pv 0) pa_nil)) pe_int (fun _ _ => rfl)) pa_nil))))), ?_⟩
  refine ⟨_, rfl, a, _, 0, _, rfl, rfl, SqT.of ha, rfl, _, _, rfl, rfl, _, rfl, ?_⟩
  by_cases c : 0 < p.s
  · rw [decide_eq_true (hp.pos_iff.mpr c)]
    rw [if_pos c] at k
    refine iteT ⟨_, rfl, _, rfl, a, p, rfl, ha, hp, fun r1 r2 q1 q2 H1 h1 h2 S1 hq1 hq2 => ⟨q1, _, 1, _, rfl, rfl, SqT.of hq1, rfl, n, p.g, rfl, k _ S1⟩⟩
  · rw [decide_eq_false (fun z => c (hp.pos_iff.mp z))]
    rw [if_neg c] at k
    refine iteF ⟨_, rfl, n, rfl, n1, n2, _, rfl, a, p, rfl, ha, hp, fun r1 r2 q1 q2 H1 h1 h2 S1 hq1 hq2 => ⟨q1, _, 1, _, rfl, rfl, SqT.of hq1, rfl, oddP n, p.g, rfl, k _ S1⟩⟩
end
abbrev s_is_split_by_four : Stmt := top 44
theorem sc_is_split_by_four : FnScope ["number", "n"] ["number", "n"] (defScope s_is_split_by_four) := ⟨rfl, rfl, rfl, by decide +kernel, rfl, by decide +kernel, by decide +kernel⟩
abbrev N_is_split_by_four : List Str := ["number", "n"]
def spS4 : Sp := fun vs H Q _ => ∃ (a : Addr) (p : Plan) (n : Nat), vs = [.ref a, .int n] ∧ NumAt H a p ∧ PlanOk p ∧ ∀ H', Same H H' → Q (.bl (decide (n % 4 = 0) && p.four)) H'
section
variable {P : Program} {w : World} {K : PySem.W.Frag} {mg : Str → Option Value} {base : Heap}
theorem d_is_split_by_four (F : At K mg "is_split_by_four" s_is_split_by_four) (D_four_for : Dn P w K mg base CX0 7 "four_for" ["number"] spFour) : Dn P w K mg base CX0 8 "is_split_by_four" ["number", "n"] spS4 := by
  refine F.ok sc_is_split_by_four (fun vs H Q E h => ?_) (fun _ _ _ _ _ _ us hl => match us, hl with | [_, _], _ => rfl) (fun f cdv A outer s H vs Q E hr h => ?_)
  · obtain ⟨_, _, _, rfl, _⟩ := h
    rfl
  obtain ⟨a, p, n, rfl, ha, hp, k⟩ := h
  refine ⟨_, (pss_one (ps_ret (pe_and (pe_cmpR op_eq (pe_op op_mod (pv 1) pe_int) pe_int (nomark _)) (pe_one (pe_cmpR op_notN (pe_fn D_four_for hr (by decide) rfl (pa_cons (pv 0) pa_nil)) pe_non (nomark _)))))), ?_⟩
  refine ⟨_, rfl, _, _, rfl, rfl, (by show (0 : Int) < 4; decide), rfl, _, rfl, ?_⟩
  by_cases c : n % 4 = 0
  · have e : decide (V.int ((n : Int) % 4) = V.int 0) = true := by
      rw [(by omega : ((n : Int) % 4) = ((n % 4 : Nat) : Int)), c]; rfl
    rw [e]
    refine iteT ⟨_, rfl, a, p, rfl, ha, hp, fun v H1 S1 hv => ⟨rfl, ?_⟩⟩
    rw [hv, Bool.not_not]
    rw [decide_eq_true c, Bool.true_and] at k
    exact k _ S1
  · have e : decide (V.int ((n : Int) % 4) = V.int 0) = false := decide_eq_false fun z => c (by injection z with z; omega)
    rw [e]
    rw [decide_eq_false c, Bool.false_and] at k
    exact iteF (k _ (Same.refl _))
end
abbrev s_does_split : Stmt := top 45
theorem sc_does_split : FnScope ["number", "n"] ["number", "n"] (defScope s_does_split) := ⟨rfl, rfl, rfl, by decide +kernel, rfl, by decide +kernel, by decide +kernel⟩
abbrev N_does_split : List Str := ["number", "n"]
def spSplit : Sp := fun vs H Q _ => ∃ (a : Addr) (p : Plan) (n : Nat), vs = [.ref a, .int n] ∧ NumAt H a p ∧ PlanOk p ∧ 1 ≤ n ∧ n < 2 ^ 100 ∧ ∀ H', Same H H' → Q (.bl (p.splits n)) H'
section
variable {P : Program} {w : World} {K : PySem.W.Frag} {mg : Str → Option Value} {base : Heap}
theorem d_does_split (F : At K mg "does_split" s_does_split) (D_shared : Dn P w K mg base CX0 6 "shared" ["number", "n"] spShared) (D_is_split_by_four : Dn P w K mg base CX0 8 "is_split_by_four" ["number", "n"] spS4) : Dn P w K mg base CX0 9 "does_split" ["number", "n"] spSplit := by
  refine F.ok sc_does_split (fun vs H Q E h => ?_) (fun _ _ _ _ _ _ us hl => match us, hl with | [_, _], _ => rfl) (fun f cdv A outer s H vs Q E hr h => ?_)
  · obtain ⟨_, _, _, rfl, _⟩ := h
    rfl
  obtain ⟨a, p, n, rfl, ha, hp, n1, n2, k⟩ := h
  refine ⟨_, (pss_one (ps_ret (pe_or (pe_cmpR op_gt (pe_fn D_shared hr (by decide) rfl (pa_cons (pv 0) (pa_cons (pv 1) pa_nil))) pe_int (nomark _)) (pe_one (pe_fn D_is_split_by_four hr (by decide) rfl (pa_cons (pv 0) (pa_cons (pv 1) pa_nil))))))), ?_⟩
  refine ⟨_, rfl, _, rfl, a, p, n, rfl, ha, hp.w, n1, n2, fun H1 S1 => ⟨_, _, rfl, rfl, _, rfl, ?_⟩⟩
  unfold Plan.splits at k
  have e : decide ((1 : Int) < ((Nat.gcd (if 0 < p.s then n else oddP n) p.g : Nat) : Int)) = decide (1 < Nat.gcd (if 0 < p.s then n else oddP n) p.g) := decide_eq_decide.mpr (by omega)
  rw [e]
  cases hd : decide (1 < Nat.gcd (if 0 < p.s then n else oddP n) p.g) with
  | true =>
    rw [hd, Bool.true_or] at k
    exact iteT (k _ S1)
  | false =>
    rw [hd, Bool.false_or] at k
    exact iteF ⟨_, rfl, _, rfl, a, p, n, rfl, ha.on S1, hp, fun H2 S2 => k _ (S1.trans S2)⟩
end
abbrev s_is_always : Stmt := top 46
theorem sc_is_always : FnScope ["number", "power"] ["number"] (defScope s_is_always) := ⟨rfl, rfl, rfl, by decide +kernel, rfl, by decide +kernel, by decide +kernel⟩
abbrev N_is_always : List Str := ["number", "power"]
def spAlways : Sp := fun vs H Q _ => ∃ (a : Addr) (p : Plan), vs = [.ref a] ∧ NumAt H a p ∧ PlanOk p ∧ ∀ H', Same H H' → Q (.bl p.always) H'
section
variable {P : Program} {w : World} {K : PySem.W.Frag} {mg : Str → Option Value} {base : Heap}
theorem d_is_always (F : At K mg "is_always" s_is_always) (D_base_for : Dn P w K mg base CX0 5 "base_for" ["number"] spBaseFor) (D_odd_part : Dn P w K mg base CX0 1 "odd_part" ["value"] spOdd) (D_four_for : Dn P w K mg base CX0 7 "four_for" ["number"] spFour) : Dn P w K mg base CX0 8 "is_always" ["number"] spAlways := by
  refine F.ok sc_is_always (fun vs H Q E h => ?_) (fun _ _ _ _ _ _ us hl => match us, hl with | [_], _ => rfl) (fun f cdv A outer s H vs Q E hr h => ?_)
  · obtain ⟨_, _, rfl, _⟩ := h
    rfl
  obtain ⟨a, p, rfl, ha, hp, k⟩ := h
  refine ⟨_, (pss_cons (ps_set (i := 1) sc_is_always.nd rfl (.inl rfl) (pe_ix (r := rIxT K) ix_tup (pe_fn D_base_for hr (by decide) rfl (pa_cons (pv 0) pa_nil)) pe_int (fun _ _ => rfl)))
  (pss_cons (ps_if (pt_cmpR op_gt (pe_ix (r := rIxT K) ix_tup (pv 0) pe_int (fun _ _ => rfl)) pe_int (nomark _)) (pss_one (ps_ret (pe_cmpR op_eq (pv 1) pe_int (nomark _)))) pss_nil)
  (pss_one (ps_ret (pe_and (pe_cmpR op_gt (pv 1) pe_int (nomark _)) (pe_and (pe_cmpR op_eq (pe_fn D_odd_part hr (by decide) rfl (pa_cons (pv 1) pa_nil)) pe_int (nomark _)) (pe_one (pe_cmpR op_isN (pe_fn D_four_for hr (by decide) rfl (pa_cons (pv 0) pa_nil)) pe_non (nomark _))))))))), ?_⟩
  refine ⟨_, rfl, a, p, rfl, ha, hp.w, fun r1 r2 q1 q2 H1 h1 h2 S1 hq1 hq2 => ⟨q1, _, 1, _, rfl, rfl, SqT.of hq1, rfl, ?_⟩⟩
  refine ⟨_, rfl, a, _, 0, _, rfl, rfl, SqT.of (ha.on S1), rfl, _, _, rfl, rfl, _, rfl, ?_⟩
  unfold Plan.always at k
  have dec1 : ∀ n : Nat, decide (V.int (n : Int) = V.int 1) = decide (n = 1) := fun n => by
    rw [decide_eq_decide]
    constructor
    · intro z; injection z with z; omega
    · rintro rfl; rfl
  have gl := hp.w.g_le
  by_cases c : 0 < p.s
  · rw [decide_eq_true (hp.w.pos_iff.mpr c)]
    rw [if_pos c] at k
    refine iteT ⟨_, rfl, rfl, ?_⟩
    rw [dec1]
    exact k _ S1
  · rw [decide_eq_false (fun z => c (hp.w.pos_iff.mp z))]
    rw [if_neg c] at k
    refine iteF ⟨_, rfl, _, _, rfl, rfl, _, rfl, ?_⟩
    have e : decide ((0 : Int) < (p.g : Int)) = decide (0 < p.g) := decide_eq_decide.mpr (by omega)
    rw [e]
    by_cases c2 : 0 < p.g
    · rw [decide_eq_true c2] at k ⊢
      have : p.g < 2 ^ 100 := Nat.lt_of_le_of_lt gl (by decide)
      refine iteT ⟨_, rfl, p.g, rfl, c2, this, rfl, _, rfl, ?_⟩
      rw [dec1]
      cases hd : decide (oddP p.g = 1) with
      | true =>
        rw [hd, Bool.true_and, Bool.true_and] at k
        refine iteT ⟨_, rfl, a, p, rfl, ha.on S1, hp, fun v H2 S2 hv => ⟨rfl, ?_⟩⟩
        rw [hv]
        exact k _ (S1.trans S2)
      | false =>
        rw [hd, Bool.false_and, Bool.and_false] at k
        exact iteF (k _ S1)
    · rw [decide_eq_false c2] at k ⊢
      exact iteF (k _ S1)
end
end Pp
-- A4
namespace Pp
open PySem PySem.Spec PyProof.Rows L2
/-! what is walked stands still: the items by their turn -/
structure Src (J : It) (H0 : Hp) (n : Nat) (item : Nat → V → Prop) : Prop where
  go : ∀ H i, Same H0 H → i < n → J.go i H
  stop : ∀ H i, Same H0 H → n ≤ i → J.stop i H
  yld : ∀ H i x H', Same H0 H → i < n → J.yld i H x H' → H' = H ∧ item i x
theorem Src.list {K : PySem.W.Frag} {H0 : Hp} {a : Addr} {xs : List V} (h : SqL K H0 a xs) : Src (Itl K a) H0 xs.length fun i x => xs[i]? = some x where
  go := fun H i S hi => ⟨xs, xs[i], S.seq h, List.getElem?_eq_getElem hi⟩
  stop := fun H i S hi => ⟨xs, S.seq h, hi⟩
  yld := fun H i x H' S hi q => ⟨q.1, q.2 xs (S.seq h)⟩
theorem same_sqT {K : PySem.W.Frag} {H H' : Hp} {a : Addr} {xs : List V} (S : Same H H') (h : SqT K H a xs) : SqT K H' a xs := by
  rcases h with (h | ⟨o, h⟩) | h
  · exact .inl (.inl (S _ _ h))
  · exact .inl (.inr ⟨o, S _ _ h⟩)
  · exact .inr h
theorem Src.tup {K : PySem.W.Frag} {H0 : Hp} {a : Addr} {xs : List V} (h : SqT K H0 a xs) : Src (Itt K a) H0 xs.length fun i x => xs[i]? = some x where
  go := fun H i S hi => ⟨xs, xs[i], same_sqT S h, List.getElem?_eq_getElem hi⟩
  stop := fun H i S hi => ⟨xs, same_sqT S h, hi⟩
  yld := fun H i x H' S hi q => ⟨q.1, q.2 xs (same_sqT S h)⟩
theorem Src.range {H0 : Hp} (lo : Int) (n : Nat) : Src (Itr lo n) H0 n fun i x => x = .int (lo + i) where
  go := fun H i S hi => hi
  stop := fun H i S hi => hi
  yld := fun H i x H' S hi q => q
theorem Src.text {H0 : Hp} (z : Str) : Src (Its z) H0 z.cps.size fun i x => ∃ c, z.cps[i]? = some c ∧ x = .str ⟨#[c]⟩ where
  go := fun H i S hi => hi
  stop := fun H i S hi => hi
  yld := fun H i x H' S hi q => q
/-- the heap without what stands at D -/
def wo (D : Addr) (H : Hp) : Hp := fun b => if b = D then none else H b
theorem wo_same {D : Addr} {H : Hp} : Same (wo D H) H := fun b o e => by
  unfold wo at e
  split at e
  · cases e
  · exact e
theorem wo_mono {D : Addr} {H H' : Hp} (S : Same H H') : Same (wo D H) (wo D H') := fun b o e => by
  unfold wo at e ⊢
  split at e
  · cases e
  · rename_i h
    rw [if_neg h]
    exact S b o e
theorem wo_at {D b : Addr} {H : Hp} {o : HO} (h : b ≠ D) (e : H b = some o) : wo D H b = some o := by
  unfold wo
  rw [if_neg h]
  exact e
theorem wo_upd {D : Addr} {H : Hp} {o : HO} : wo D (upd H D o) = wo D H := by
  funext b
  unfold wo
  split
  · rfl
  · rename_i h
    exact upd_ne h
theorem wo_of {D : Addr} {H1 H : Hp} (S : Same H1 H) (h : H1 D = none) : Same H1 (wo D H) := fun b o e => wo_at (ne_of_none e h) (S b o e)
/-- a list comprehension whose source stands still, whose turns change nothing that stood -/
theorem lc_go {J : It} {n j : Nat} {item : Nat → V → Prop} {vs : List Nat} {σ : L2.St} {H1 : Hp} {D : Addr} {tt : TT} {te : TE} {Qd : Hp → Prop} (src : Src J H1 n item) (hD : H1 D = none) (hn : n < 100000)
    (hw : ∀ x, wipe ((wipe σ vs).set j (some x)) vs = wipe σ vs) (Iv : Nat → List V → Hp → Prop) (h0 : Iv 0 [] H1) (mono : ∀ i ys G G', Same G G' → Iv i ys G → Iv i ys G')
    (hs : ∀ i x ys H, i < n → item i x → ys.length ≤ i → Same H1 H → H D = some (.lst ys) → Iv i ys (wo D H) → ∀ (Qe : V → Hp → Prop) (Qn : Hp → Prop), (∀ y H4, Same H H4 → Iv (i + 1) (ys ++ [y]) (wo D H4) → Qe y H4) → (∀ H3, Same H H3 → Iv (i + 1) ys (wo D H3) → Qn H3) →
      tt ((wipe σ vs).set j (some x)) H fun b H3 => if b = true then te ((wipe σ vs).set j (some x)) H3 Qe else Qn H3)
    (hd : ∀ ys H', Same H1 H' → H' D = some (.lst ys) → ys.length ≤ n → Iv n ys H' → Qd H') :
    ∃ W : Nat → Nat → Hp → Prop, (∃ m, W 0 m (upd H1 D (.lst []))) ∧ ∀ i m H, W i m H →
      (J.stop i H ∧ Qd H) ∨ (J.go i H ∧ ∃ Nx : Hp → Prop, (∀ H', Nx H' → ∃ m', m' < m ∧ W (i + 1) m' H') ∧ ∀ x H', J.yld i H x H' → gName j x (wipe σ vs) H' fun σ2 H2 => wipe σ2 vs = wipe σ vs ∧ tt σ2 H2 fun b H3 =>
        if b = true then te σ2 H3 fun y H4 => ∃ acc, H4 D = some (.lst acc) ∧ acc.length < sizeLine ∧ Nx (upd H4 D (.lst (acc ++ [y]))) else Nx H3) := by
  refine ⟨fun i m H => i ≤ n ∧ m = n - i ∧ ∃ ys, ys.length ≤ i ∧ Same H1 H ∧ H D = some (.lst ys) ∧ Iv i ys (wo D H), ⟨_, Nat.zero_le _, rfl, [], Nat.le_refl _, same_new hD, upd_same, ?_⟩, ?_⟩
  · rw [wo_upd]
    exact mono _ _ _ _ (wo_of (Same.refl _) hD) h0
  · rintro i m H ⟨hi, rfl, ys, hl, S, hy, I⟩
    rcases Nat.lt_or_ge i n with c | c
    · refine .inr ⟨src.go H i S c, _, fun _ h => h, fun x H' y => ?_⟩
      obtain ⟨rfl, hx⟩ := src.yld H i x H' S c y
      refine ⟨hw x, hs i x ys H' c hx hl S hy I _ _ (fun y H4 S4 I4 => ?_) (fun H3 S3 I3 => ?_)⟩
      · refine ⟨ys, S4 _ _ hy, Nat.lt_of_le_of_lt hl (Nat.lt_trans (Nat.lt_trans c hn) (by decide)), n - (i + 1), by omega, c, rfl, ys ++ [y], by rw [List.length_append]; exact Nat.add_le_add_right hl 1, fun b o e => ?_, upd_same, ?_⟩
        · rw [upd_ne (ne_of_none e hD)]
          exact S4 _ _ (S _ _ e)
        · rw [wo_upd]
          exact I4
      · exact ⟨n - (i + 1), by omega, c, rfl, ys, Nat.le_succ_of_le hl, S.trans S3, S3 _ _ hy, I3⟩
    · have e : i = n := by omega
      subst e
      exact .inl ⟨src.stop H i S c, hd ys H S hy hl (mono _ _ _ _ wo_same I)⟩
/-! kinds of values -/
abbrev s_is_integer : Stmt := top 17
theorem sc_is_integer : FnScope ["value"] ["value"] (defScope s_is_integer) := ⟨rfl, rfl, rfl, by decide +kernel, rfl, by decide +kernel, by decide +kernel⟩
abbrev N_is_integer : List Str := ["value"]
def spIsInt : Sp := fun vs H Q _ => ∃ i : Int, vs = [.int i] ∧ Q (.bl true) H
section
variable {P : Program} {w : World} {K : PySem.W.Frag} {mg : Str → Option Value} {base : Heap}
theorem d_is_integer (F : At K mg "is_integer" s_is_integer) (B : Blt mg) : Dn P w K mg base CX0 1 "is_integer" ["value"] spIsInt := by
  refine F.ok sc_is_integer (fun vs H Q E h => ?_) (fun _ _ _ _ _ _ us hl => match us, hl with | [_], _ => rfl) (fun f cdv A outer s H vs Q E hr h => ?_)
  · obtain ⟨_, rfl, _⟩ := h
    rfl
  obtain ⟨i, rfl, k⟩ := h
  refine ⟨_, (pss_one (ps_ret (pe_and (pe_callB (id := "isinstance") (r := rIsi K) call_isi (by rfl) B.isinstance (by decide +kernel) (pa_cons (pv 0) (pa_cons (pe_bltn (v := .ty "int") (by rfl) B.int (by decide +kernel) rfl) pa_nil))) (pe_one (pe_not (pe_callB (id := "isinstance") (r := rIsi K) call_isi (by rfl) B.isinstance (by decide +kernel) (pa_cons (pv 0) (pa_cons (pe_bltn (v := .ty "bool") (by rfl) B.bool (by decide +kernel) rfl) pa_nil)))))))), ?_⟩
  refine ⟨_, rfl, _, _, _, _, true, rfl, .ty _, .base (.int _), kit_ty (by decide +kernel), _, rfl, iteT ?_⟩
  exact ⟨_, rfl, _, _, _, _, false, rfl, .ty _, .base (.int _), kit_ty (by decide +kernel), _, rfl, k⟩
end
abbrev s_is_between : Stmt := top 18
theorem sc_is_between : FnScope ["value", "low", "high"] ["value", "low", "high"] (defScope s_is_between) := ⟨rfl, rfl, rfl, by decide +kernel, rfl, by decide +kernel, by decide +kernel⟩
abbrev N_is_between : List Str := ["value", "low", "high"]
def spBetween : Sp := fun vs H Q _ => ∃ v lo hi : Int, vs = [.int v, .int lo, .int hi] ∧ Q (.bl (decide (lo ≤ v) && decide (v ≤ hi))) H
section
variable {P : Program} {w : World} {K : PySem.W.Frag} {mg : Str → Option Value} {base : Heap}
theorem d_is_between (F : At K mg "is_between" s_is_between) (D_is_integer : Dn P w K mg base CX0 1 "is_integer" ["value"] spIsInt) : Dn P w K mg base CX0 2 "is_between" ["value", "low", "high"] spBetween := by
  refine F.ok sc_is_between (fun vs H Q E h => ?_) (fun _ _ _ _ _ _ us hl => match us, hl with | [_, _, _], _ => rfl) (fun f cdv A outer s H vs Q E hr h => ?_)
  · obtain ⟨_, _, _, rfl, _⟩ := h
    rfl
  obtain ⟨v, lo, hi, rfl, k⟩ := h
  refine ⟨_, (pss_one (ps_ret (pe_and (pe_fn D_is_integer hr (by decide) rfl (pa_cons (pv 0) pa_nil)) (pe_one (pe_chain op_le op_le (pv 1) (pv 0) (pv 2)))))), ?_⟩
  refine ⟨_, rfl, v, rfl, _, rfl, iteT ?_⟩
  refine ⟨_, rfl, _, rfl, _, _, rfl, rfl, _, rfl, ?_⟩
  cases hd : decide (lo ≤ v) with
  | true =>
    rw [hd, Bool.true_and] at k
    exact iteT ⟨_, rfl, _, _, rfl, rfl, k⟩
  | false =>
    rw [hd, Bool.false_and] at k
    exact iteF k
end
abbrev s_is_number : Stmt := top 27
theorem sc_is_number : FnScope ["value"] ["value"] (defScope s_is_number) := ⟨rfl, rfl, rfl, by decide +kernel, rfl, by decide +kernel, by decide +kernel⟩
abbrev N_is_number : List Str := ["value"]
def spIsNum : Sp := fun vs H Q _ => ∃ (a : Addr) (p : Plan), vs = [.ref a] ∧ NumAt H a p ∧ PlanOk p ∧ Q (.bl true) H
section
variable {P : Program} {w : World} {K : PySem.W.Frag} {mg : Str → Option Value} {base : Heap}
theorem PlanOk.in1 {p : Plan} (h : PlanOk p) : (decide (-(10 : Int) ^ 30 ≤ p.s * (p.t : Int)) && decide (p.s * (p.t : Int) ≤ 10 ^ 30)) = true := by
  have ht := h.t_le
  have e : ((10 : Int) ^ 30) = ((10 ^ 30 : Nat) : Int) := by decide
  rw [Bool.and_eq_true, decide_eq_true_eq, decide_eq_true_eq, e]
  rcases h.w.s with z | z <;> rw [z]
  · rw [Int.one_mul]; omega
  · rw [Int.neg_mul, Int.one_mul]; omega
theorem PlanOk.in2 {p : Plan} (h : PlanOk p) : (decide ((1 : Int) ≤ (p.u : Int)) && decide ((p.u : Int) ≤ 10 ^ 30)) = true := by
  have hu := h.u_le
  have hu1 : 1 ≤ p.u := pr_pos _ _ _ _
  have e : ((10 : Int) ^ 30) = ((10 ^ 30 : Nat) : Int) := by decide
  rw [Bool.and_eq_true, decide_eq_true_eq, decide_eq_true_eq, e]
  omega
theorem PlanOk.ne0 {p : Plan} (h : PlanOk p) : decide (V.int (p.s * (p.t : Int)) = V.int 0) = false := decide_eq_false fun z => by
  injection z with z
  have ht1 : 1 ≤ p.t := pr_pos _ _ _ _
  rcases h.w.s with y | y <;> rw [y] at z
  · rw [Int.one_mul] at z; omega
  · rw [Int.neg_mul, Int.one_mul] at z; omega
theorem d_is_number (F : At K mg "is_number" s_is_number) (B : Blt mg) {tk : Tok} (h_MOST_SIZE : mg "MOST_SIZE" = some (.int (10 ^ 30) tk)) (D_is_between : Dn P w K mg base CX0 2 "is_between" ["value", "low", "high"] spBetween) (D_common_divisor : Dn P w K mg base CX0 1 "common_divisor" ["one", "other"] spGcd) :
    Dn P w K mg base CX0 3 "is_number" ["value"] spIsNum := by
  refine F.ok sc_is_number (fun vs H Q E h => ?_) (fun _ _ _ _ _ _ us hl => match us, hl with | [_], _ => rfl) (fun f cdv A outer s H vs Q E hr h => ?_)
  · obtain ⟨_, _, rfl, _⟩ := h
    rfl
  obtain ⟨a, p, rfl, ha, hp, k⟩ := h
  refine ⟨_, (pss_cons (ps_if (PW.pt (pw_or (pt_not (pt_val (pe_callB (id := "isinstance") (r := rIsi K) call_isi (by rfl) B.isinstance (by decide +kernel) (pa_cons (pv 0) (pa_cons (pe_bltn (v := .ty "tuple") (by rfl) B.tuple (by decide +kernel) rfl) pa_nil))))) (pw_or1 (pt_cmpR op_ne (pe_callB (id := "len") call_len_seq (by rfl) B.len (by decide +kernel) (pa_cons (pv 0) pa_nil)) pe_int (nomark _))))) (pss_one (ps_ret pe_bl)) pss_nil)
  (pss_cons (ps_if (PW.pt (pw_or (pt_not (pt_val (pe_fn D_is_between hr (by decide) rfl (pa_cons (pe_ix (r := rIxT K) ix_tup (pv 0) pe_int (fun _ _ => rfl)) (pa_cons (pe_un un_neg (pe_glob (v := .int (10 ^ 30)) rfl h_MOST_SIZE ⟨_, rfl⟩)) (pa_cons (pe_glob (v := .int (10 ^ 30)) rfl h_MOST_SIZE ⟨_, rfl⟩) pa_nil)))))) (pw_or (pt_cmpR op_eq (pe_ix (r := rIxT K) ix_tup (pv 0) pe_int (fun _ _ => rfl)) pe_int (nomark _)) (pw_or1 (pt_not (pt_val (pe_fn D_is_between hr (by decide) rfl (pa_cons (pe_ix (r := rIxT K) ix_tup (pv 0) pe_int (fun _ _ => rfl)) (pa_cons pe_int (pa_cons (pe_glob (v := .int (10 ^ 30)) rfl h_MOST_SIZE ⟨_, rfl⟩) pa_nil)))))))))) (pss_one (ps_ret pe_bl)) pss_nil)
  (pss_one (ps_ret (pe_cmpR op_eq (pe_fn D_common_divisor hr (by decide) rfl (pa_cons (pe_callB call_abs (by rfl) B.abs (by decide +kernel) (pa_cons (pe_ix (r := rIxT K) ix_tup (pv 0) pe_int (fun _ _ => rfl)) pa_nil)) (pa_cons (pe_ix (r := rIxT K) ix_tup (pv 0) pe_int (fun _ _ => rfl)) pa_nil))) pe_int (nomark _)))))), ?_⟩
  -- not a tuple, or not two items
  refine ⟨_, rfl, _, _, _, _, true, rfl, .ty _, .base (.tup ha), kit_ty (by decide +kernel), _, rfl, iteF ?_⟩
  refine ⟨_, rfl, _, _, rfl, .inr (SqT.of ha), rfl, _, rfl, iteF ?_⟩
  -- the bounds
  refine ⟨_, rfl, a, _, 0, _, rfl, rfl, SqT.of ha, rfl, _, rfl, _, _, _, rfl, _, rfl, ?_⟩
  rw [hp.in1]
  refine iteF ⟨_, rfl, a, _, 0, _, rfl, rfl, SqT.of ha, rfl, rfl, _, rfl, ?_⟩
  rw [hp.ne0]
  refine iteF ⟨_, rfl, a, _, 1, _, rfl, rfl, SqT.of ha, rfl, _, _, _, rfl, _, rfl, ?_⟩
  rw [hp.in2]
  refine iteF ⟨_, rfl, a, _, 0, _, rfl, rfl, SqT.of ha, rfl, _, rfl, ?_⟩
  rw [hp.w.abs]
  refine ⟨_, rfl, a, _, 1, _, rfl, rfl, SqT.of ha, rfl, p.t, p.u, rfl, rfl, ?_⟩
  rw [p.cop]
  exact k
end
abbrev s_check_number : Stmt := top 28
theorem sc_check_number : FnScope ["value"] ["value"] (defScope s_check_number) := ⟨rfl, rfl, rfl, by decide +kernel, rfl, by decide +kernel, by decide +kernel⟩
abbrev N_check_number : List Str := ["value"]
def spChk : Sp := fun vs H Q _ => ∃ (a : Addr) (p : Plan), vs = [.ref a] ∧ NumAt H a p ∧ PlanOk p ∧ Q .non H
section
variable {P : Program} {w : World} {K : PySem.W.Frag} {mg : Str → Option Value} {base : Heap}
theorem d_check_number (F : At K mg "check_number" s_check_number) (D_is_number : Dn P w K mg base CX0 3 "is_number" ["value"] spIsNum) : Dn P w K mg base CX0 4 "check_number" ["value"] spChk := by
  refine F.ok sc_check_number (fun vs H Q E h => ?_) (fun _ _ _ _ _ _ us hl => match us, hl with | [_], _ => rfl) (fun f cdv A outer s H vs Q E hr h => ?_)
  · obtain ⟨_, _, rfl, _⟩ := h
    rfl
  obtain ⟨a, p, rfl, ha, hp, k⟩ := h
  refine ⟨_, (pss_one (ps_if (pt_not (pt_val (pe_fn D_is_number hr (by decide) rfl (pa_cons (pv 0) pa_nil)))) (pss_one ps_never) pss_nil)), ?_⟩
  exact ⟨_, rfl, a, p, rfl, ha, hp, _, rfl, iteF k⟩
end
/-- the names that the law draws -/
def Title (x : Str) : Prop := x = "a" ∨ x = "main" ∨ x = "zz"
abbrev s_is_name : Stmt := top 19
theorem sc_is_name : FnScope ["value", "sign"] ["value"] (defScope s_is_name) := ⟨rfl, rfl, rfl, by decide +kernel, rfl, by decide +kernel, by decide +kernel⟩
abbrev N_is_name : List Str := ["value", "sign"]
def spIsName : Sp := fun vs H Q _ => ∃ x : Str, vs = [.str x] ∧ Title x ∧ ∀ H', Same H H' → Q (.bl true) H'
theorem title_len {x : Str} (h : Title x) : x.length ≤ 8 ∧ 1 ≤ x.length ∧ x.cps.size = x.length := by
  rcases h with rfl | rfl | rfl <;> decide +kernel
theorem title_in {x : Str} (h : Title x) : ∀ c ∈ x.cps.toList, c ∈ ("abcdefghijklmnopqrstuvwxyz" : Str).cps.toList := by
  rcases h with rfl | rfl | rfl <;> decide +kernel
section
variable {P : Program} {w : World} {K : PySem.W.Frag} {mg : Str → Option Value} {base : Heap}
theorem d_is_name (F : At K mg "is_name" s_is_name) (B : Blt mg) {tk tk2 : Tok} (h_LETTERS : mg "LETTERS" = some (.str "abcdefghijklmnopqrstuvwxyz" tk)) (h_MOST_LETTERS : mg "MOST_LETTERS" = some (.int 8 tk2)) : Dn P w K mg base CX0 1 "is_name" ["value"] spIsName := by
  refine F.ok sc_is_name (fun vs H Q E h => ?_) (fun _ _ _ _ _ _ us hl => match us, hl with | [_], _ => rfl) (fun f cdv A outer s H vs Q E hr h => ?_)
  · obtain ⟨_, rfl, _⟩ := h
    rfl
  obtain ⟨x, rfl, hx, k⟩ := h
  obtain ⟨l8, l1, lz⟩ := title_len hx
  refine ⟨_, (pss_one (ps_ret (pe_and (pe_callB (id := "isinstance") (r := rIsi K) call_isi (by rfl) B.isinstance (by decide +kernel) (pa_cons (pv 0) (pa_cons (pe_bltn (v := .ty "str") (by rfl) B.str (by decide +kernel) rfl) pa_nil))) (pe_and (pe_chain op_le op_le pe_int (pe_callB (id := "len") call_len_str (by rfl) B.len (by decide +kernel) (pa_cons (pv 0) pa_nil)) (pe_glob (v := .int 8) rfl h_MOST_LETTERS ⟨_, rfl⟩)) (pe_one (pe_callB (cr_all rfl) (by rfl) B.all (by decide +kernel) (pa_cons (pe_lc (own := [("sign", 1)]) (g := gName 1) rfl sc_is_name.nd (pi_str (pv 0)) (blkOk_by (own := [("sign", 1)]) (N := N_is_name) (sc := defScope s_is_name) (by decide +kernel)) (fun _ _ _ _ _ => pg_name (i := 1) sc_is_name.nd rfl (Or.inl rfl)) (fun _ _ _ _ _ => pts_nil) (fun _ _ _ _ _ => (pe_cmpR op_in_sign (pv 1) (pe_glob (v := .str "abcdefghijklmnopqrstuvwxyz") rfl h_LETTERS ⟨_, rfl⟩) rfl))) pa_nil))))))), ?_⟩
  refine ⟨_, rfl, _, _, _, _, true, rfl, .ty _, .base (.str _), kit_ty (by decide +kernel), _, rfl, iteT ?_⟩
  refine ⟨_, rfl, x, rfl, Nat.le_trans l8 (by decide), _, _, rfl, rfl, _, rfl, ?_⟩
  rw [decide_eq_true (by omega : (1 : Int) ≤ (x.length : Int))]
  refine iteT ⟨_, _, rfl, rfl, _, rfl, ?_⟩
  rw [decide_eq_true (by omega : (x.length : Int) ≤ 8)]
  refine iteT ?_
  refine ⟨_, rfl, x, rfl, fun D hD => lc_go (J := Its x) (n := x.cps.size) (j := 1) (Src.text x) hD (by omega) (fun _ => rfl) (fun i ys G => ys = List.replicate i (V.bl true)) rfl (fun _ _ _ _ _ h => h) ?_ ?_⟩
  · rintro i v ys H1 hi ⟨c, hc, rfl⟩ _ S hy I Qe Qn ke kn
    refine iteT (B := Qn H1) ⟨_, rfl, c, _, rfl, rfl, ?_⟩
    rw [decide_eq_true (title_in hx c (Array.mem_toList_iff.mpr (Array.mem_of_getElem? hc)))]
    exact ke _ _ (Same.refl _) (by rw [I, List.replicate_succ'])
  · intro ys H1 S hy _ I
    refine ⟨D, List.replicate x.cps.size true, rfl, SqL.of (by rw [hy, I, List.map_replicate]), ?_⟩
    have e : (List.replicate x.cps.size true).all id = true := by
      rw [List.all_eq_true]
      intro b hb
      rw [List.eq_of_mem_replicate hb]
      rfl
    rw [e]
    exact k _ S
end
end Pp
-- A5
namespace Pp
open PySem PySem.Spec PyProof.Rows L2
/-- all but p is as it was -/
def But (p : Addr) (H H' : Hp) : Prop := ∀ b o, b ≠ p → H b = some o → H' b = some o
theorem But.refl {p : Addr} (H : Hp) : But p H H := fun _ _ _ h => h
theorem But.trans {p : Addr} {H H1 H2 : Hp} (a : But p H H1) (b : But p H1 H2) : But p H H2 := fun c o n h => b c o n (a c o n h)
theorem But.same {p : Addr} {H0 H H' : Hp} (S : Same H0 H) (b : But p H H') (n : H0 p = none) : Same H0 H' := fun c o h => b c o (ne_of_none h n) (S c o h)
theorem But.of {p : Addr} {H H' : Hp} (S : Same H H') : But p H H' := fun c o _ h => S c o h
theorem But.upd {p : Addr} {H : Hp} {o : HO} : But p H (upd H p o) := fun c u n h => by rw [upd_ne n]; exact h
mutual
theorem dp_on {K : PySem.W.Frag} {H H' : Hp} (S : Same H H') : ∀ {d : PyData} {v : V}, Dp K H v d → Dp K H' v d
  | _, _, .non => .non
  | _, _, .bl b => .bl b
  | _, _, .int i => .int i
  | _, _, .str x => .str x
  | _, _, .lst h a => .lst (S.seq h) (dpAll_on S a)
  | _, _, .tup h a => .tup (same_sqT S h) (dpAll_on S a)
theorem dpAll_on {K : PySem.W.Frag} {H H' : Hp} (S : Same H H') : ∀ {ds : List PyData} {vs : List V}, DpAll K H vs ds → DpAll K H' vs ds
  | _, _, .nil => .nil
  | _, _, .cons a b => .cons (dp_on S a) (dpAll_on S b)
end
/-! the primes of an exponent: the loop, as it runs -/
def strip : Nat → Nat → Nat → Nat
  | 0, _, l => l
  | k + 1, s, l => if l % s = 0 then strip k s (l / s) else l
def pdRun : Nat → List Nat × Nat × Nat → List Nat × Nat × Nat
  | 0, z => z
  | k + 1, (f, l, s) => if s * s ≤ l then (if l % s = 0 then pdRun k (f ++ [s], strip 30 s l, s + 1) else pdRun k (f, l, s + 1)) else (f, l, s)
def pdEnd (v : Nat) : List Nat × Nat × Nat := pdRun 30 ([], v, 2)
def pdL (v : Nat) : List Nat := (pdEnd v).1 ++ (if 1 < (pdEnd v).2.1 then [(pdEnd v).2.1] else [])
theorem pd_done : ∀ v : Nat, v < 21 → 1 ≤ v → ¬ (pdEnd v).2.2 * (pdEnd v).2.2 ≤ (pdEnd v).2.1 := by decide +kernel
theorem strip_done0 : ∀ l : Fin 21, ∀ s : Fin 21, 1 ≤ l.val → 2 ≤ s.val → ¬ strip 30 s.val l.val % s.val = 0 ∧ 1 ≤ strip 30 s.val l.val ∧ strip 30 s.val l.val ≤ l.val := by decide +kernel
theorem strip_done (l : Nat) (hl : l < 21) (s : Nat) (hs : s < 21) (h1 : 1 ≤ l) (h2 : 2 ≤ s) : ¬ strip 30 s l % s = 0 ∧ 1 ≤ strip 30 s l ∧ strip 30 s l ≤ l := strip_done0 ⟨l, hl⟩ ⟨s, hs⟩ h1 h2
theorem pdRun_stop {z : List Nat × Nat × Nat} (h : ¬ z.2.2 * z.2.2 ≤ z.2.1) : ∀ k, pdRun k z = z
  | 0 => rfl
  | k + 1 => by
    obtain ⟨f, l, s⟩ := z
    show (if s * s ≤ l then _ else _) = _
    rw [if_neg h]
theorem strip_stop {s l : Nat} (h : ¬ l % s = 0) : ∀ k, strip k s l = l
  | 0 => rfl
  | k + 1 => by
    show (if l % s = 0 then _ else _) = _
    rw [if_neg h]
theorem pd_primes : ∀ v : Nat, v < 21 → 1 ≤ v → ∀ b : Bool, ((pdL v).map Int.ofNat).filter (fun q => b || decide (2 < q)) = ([2, 3, 5, 7, 11, 13, 17, 19] : List Int).filter fun q => decide ((v : Int) % q = 0) && (b || decide (2 < q)) := by decide +kernel
theorem pdL_len : ∀ v : Nat, v < 21 → 1 ≤ v → (pdL v).length ≤ 8 := by decide +kernel
def nums (l : List Nat) : List V := l.map fun (n : Nat) => V.int (n : Int)
abbrev s_prime_divisors : Stmt := top 24
theorem sc_prime_divisors : FnScope ["value", "found", "left", "step"] ["value"] (defScope s_prime_divisors) := ⟨rfl, rfl, rfl, by decide +kernel, rfl, by decide +kernel, by decide +kernel⟩
abbrev N_prime_divisors : List Str := ["value", "found", "left", "step"]
def spPD : Sp := fun vs H Q _ => ∃ v : Nat, vs = [.int v] ∧ 1 ≤ v ∧ v ≤ 20 ∧ ∀ (l : Addr) (H' : Hp), H l = none → Same H H' → H' l = some (.lst (nums (pdL v))) → Q (.ref l) H'
section
variable {P : Program} {w : World} {K : PySem.W.Frag} {mg : Str → Option Value} {base : Heap}
theorem d_prime_divisors (F : At K mg "prime_divisors" s_prime_divisors) : Dn P w K mg base CX0 1 "prime_divisors" ["value"] spPD := by
  refine F.ok sc_prime_divisors (fun vs H Q E h => ?_) (fun _ _ _ _ _ _ us hl => match us, hl with | [_], _ => rfl) (fun f cdv A outer s H vs Q E hr h => ?_)
  · obtain ⟨_, rfl, _⟩ := h
    rfl
  obtain ⟨v, rfl, v1, v2, k⟩ := h
  refine ⟨_, (pss_cons (ps_par3 (i := 1) (j := 2) (l := 3) rfl sc_prime_divisors.nd rfl rfl rfl (by decide) (by decide) (by decide) rfl rfl rfl (pa_cons (pe_lst pa_nil) (pa_cons (pv 0) (pa_cons pe_int pa_nil))) (by rfl))
  (pss_cons (ps_while PassesOwn.never (pt_cmpR op_le (pe_op op_mulW (pv 3) (pv 3)) (pv 2) (nomark _)) (pss_cons (ps_if (pt_cmpR op_eq (pe_op op_mod (pv 2) (pv 3)) pe_int (nomark _)) (pss_cons (ps_expr (pe_bm PySem.F.plainAttrs_list PySem.F.slot_list_append PySem.F.type_list_append mt_append (pv 1) (pa_cons (pv 3) pa_nil)))
  (pss_one (ps_while PassesOwn.never (pt_cmpR op_eq (pe_op op_mod (pv 2) (pv 3)) pe_int (nomark _)) (pss_one (ps_set (i := 2) sc_prime_divisors.nd rfl (.inl rfl) (pe_op op_fdivW (pv 2) (pv 3))))))) pss_nil)
  (pss_one (ps_aug (i := 3) sc_prime_divisors.nd rfl (.inl rfl) pe_int ip_add))))
  (pss_one (ps_ret (pe_op op_cat (pv 1) (pe_ifExp (pt_cmpR op_gt (pv 2) pe_int (nomark _)) (pe_lst (pa_cons (pv 2) pa_nil)) (pe_lst pa_nil))))))), ?_⟩
  refine ⟨by decide, fun F0 hF => ⟨_, rfl, _, _, _, rfl, ?_⟩⟩
  -- the outer loop
  have e0 : L2.start N_prime_divisors [V.int (v : Int)] = [some (.int (v : Int)), none, none, none] := rfl
  refine while_a (α := List Nat × Nat × Nat) (fun z => [some (.int (v : Int)), some (.ref F0), some (.int (z.2.1 : Int)), some (.int (z.2.2 : Int))])
    (fun z H' => H' F0 = some (.lst (nums z.1)) ∧ But F0 H H' ∧ (∃ j, pdRun j z = pdEnd v) ∧ 1 ≤ z.2.1 ∧ z.2.1 ≤ 20 ∧ 2 ≤ z.2.2 ∧ z.2.2 ≤ 20 ∧ z.1.length + 2 ≤ z.2.2) (fun z => z.2.1 + 1 - z.2.2) ([], v, 2) rfl ⟨upd_same, But.upd, ⟨30, rfl⟩, v1, v2, Nat.le_refl 2, (by decide : 2 ≤ 20), Nat.le_refl 2⟩ ?_
  rintro ⟨f0, l, st⟩ H1 ⟨hf, bt, ⟨j, hj⟩, l1, l2, s1, s2, fl⟩
  dsimp only at hf hj l1 l2 s1 s2 fl
  refine ⟨_, rfl, _, rfl, _, _, rfl, rfl, wide_mul (a := 10) (b := 10) (by rw [Int.natAbs_natCast]; show st < 1024; omega) (by rw [Int.natAbs_natCast]; show st < 1024; omega) (by decide) (by decide) (by decide), _, rfl, _, _, rfl, rfl, _, rfl, ?_⟩
  refine ite2 (fun c => ?_) (fun c => ?_)
  · have c' : st * st ≤ l := by
      have := of_decide_eq_true c
      exact Int.ofNat_le.mp (by rw [Int.natCast_mul]; exact this)
    have s5 : st ≤ 4 := by
      rcases Nat.lt_or_ge 4 st with z | z
      · have := Nat.mul_le_mul (show 5 ≤ st from z) (show 5 ≤ st from z)
        omega
      · exact z
    have stl : st ≤ l := Nat.le_trans (Nat.le_mul_of_pos_left st (by omega)) c'
    refine ⟨_, fun _ _ h => h, ?_⟩
    -- if left % step == 0
    refine ⟨_, rfl, _, rfl, _, _, rfl, rfl, (by show (0 : Int) < (st : Int); omega), rfl, _, rfl, ?_⟩
    by_cases d : l % st = 0
    · have ed : decide (V.int ((l : Int) % (st : Int)) = V.int 0) = true := by
        rw [← Int.natCast_emod, d]; rfl
      rw [ed]
      refine iteT ⟨_, rfl, .inl ⟨rfl, _, .inl (.inl hf)⟩, _, rfl, F0, _, _, rfl, rfl, hf, Nat.lt_of_le_of_lt (by unfold nums; rw [List.length_map]; omega) (by decide : 20 < sizeLine), ?_⟩
      obtain ⟨t1, t2, t3⟩ := strip_done l (by omega) st (by omega) l1 s1
      refine while_a (α := Nat) (fun z => [some (.int (v : Int)), some (.ref F0), some (.int (z : Int)), some (.int (st : Int))])
        (fun z H' => H' = upd H1 F0 (.lst (nums f0 ++ [V.int (st : Int)])) ∧ 1 ≤ z ∧ ∃ i, strip i st z = strip 30 st l) (fun z => z) l rfl ⟨rfl, l1, 30, rfl⟩ ?_
      rintro z H2 ⟨rfl, z1, i, hi⟩
      refine ⟨_, rfl, _, rfl, _, _, rfl, rfl, (by show (0 : Int) < (st : Int); omega), rfl, _, rfl, ?_⟩
      by_cases dz : z % st = 0
      · have ez : decide (V.int ((z : Int) % (st : Int)) = V.int 0) = true := by
          rw [← Int.natCast_emod, dz]; rfl
        rw [ez]
        refine iteT ⟨_, fun _ _ h => h, _, rfl, _, rfl, _, _, rfl, rfl, wide_div (b := 10) (by omega) (by rw [Int.natAbs_natCast]; omega) (by decide) (by decide), ?_⟩
        have zl : z / st < z := Nat.div_lt_self z1 s1
        have zst : st ≤ z := Nat.le_of_dvd z1 (Nat.dvd_of_mod_eq_zero dz)
        refine ⟨z / st, zl, z / st, rfl, ⟨rfl, Nat.div_pos zst (by omega), ?_⟩, rfl⟩
        cases i with
        | zero => exact absurd (show strip 30 st l % st = 0 by rw [← hi]; exact dz) t1
        | succ i => exact ⟨i, by rw [← hi]; show _ = (if z % st = 0 then _ else _); rw [if_pos dz]⟩
      · have ez : decide (V.int ((z : Int) % (st : Int)) = V.int 0) = false := decide_eq_false fun y => dz (by
          rw [← Int.natCast_emod] at y
          injection y with y
          exact Int.ofNat_inj.mp y)
        rw [ez]
        have hz : z = strip 30 st l := by rw [← hi, strip_stop dz]
        refine iteF ⟨_, rfl, _, _, rfl, rfl, ?_⟩
        refine ⟨strip 30 st l + 1 - (st + 1), by show strip 30 st l + 1 - (st + 1) < l + 1 - st; omega, (f0 ++ [st], strip 30 st l, st + 1), by rw [hz]; rfl, ⟨?_, bt.trans But.upd, ?_, t2, by show strip 30 st l ≤ 20; omega, by show 2 ≤ st + 1; omega, by show st + 1 ≤ 20; omega, ?_⟩, rfl⟩
        · rw [upd_same]
          unfold nums
          rw [List.map_append]
          rfl
        · cases j with
          | zero => exact absurd (show (pdEnd v).2.2 * (pdEnd v).2.2 ≤ (pdEnd v).2.1 by rw [← hj]; exact c') (pd_done v (by omega) v1)
          | succ j => exact ⟨j, by rw [← hj]; show _ = (if st * st ≤ l then _ else _); rw [if_pos c', if_pos d]⟩
        · show (f0 ++ [st]).length + 2 ≤ st + 1
          rw [List.length_append]
          show f0.length + 1 + 2 ≤ st + 1
          omega
    · have ed : decide (V.int ((l : Int) % (st : Int)) = V.int 0) = false := decide_eq_false fun y => d (by
        rw [← Int.natCast_emod] at y
        injection y with y
        exact Int.ofNat_inj.mp y)
      rw [ed]
      refine iteF ⟨_, rfl, _, _, rfl, rfl, ?_⟩
      refine ⟨l + 1 - (st + 1), by show l + 1 - (st + 1) < l + 1 - st; omega, (f0, l, st + 1), rfl, ⟨hf, bt, ?_, l1, l2, by show 2 ≤ st + 1; omega, by show st + 1 ≤ 20; omega, by show f0.length + 2 ≤ st + 1; omega⟩, rfl⟩
      cases j with
      | zero => exact absurd (show (pdEnd v).2.2 * (pdEnd v).2.2 ≤ (pdEnd v).2.1 by rw [← hj]; exact c') (pd_done v (by omega) v1)
      | succ j => exact ⟨j, by rw [← hj]; show _ = (if st * st ≤ l then _ else _); rw [if_pos c', if_neg d]⟩
  · have c' : ¬ st * st ≤ l := fun z => c (decide_eq_true (by have := Int.ofNat_le.mpr z; rw [Int.natCast_mul] at this; exact this))
    have hz : pdEnd v = (f0, l, st) := by rw [← hj, pdRun_stop c']
    have S1 : Same H H1 := But.same (Same.refl H) bt hF
    refine ⟨_, rfl, _, rfl, _, _, rfl, rfl, _, rfl, ?_⟩
    have fin : ∀ (r : List Nat) (q : Addr) (H2 : Hp), pdL v = f0 ++ r → r.length ≤ 1 → H2 F0 = some (.lst (nums f0)) → Same H H2 → H2 q = some (.lst (nums r)) → rCat (.ref F0) (.ref q) H2 Q := by
      intro r q H2 hr2 hr1 h1 h2 h3
      refine ⟨F0, q, _, _, rfl, rfl, h1, h3, Nat.le_trans (by unfold nums; rw [List.length_map, List.length_map]; omega) (by decide : 40 ≤ sizeLine), fun p hp => ?_⟩
      refine k p _ (h2.free hp) (h2.trans (same_new hp)) ?_
      rw [upd_same, hr2]
      unfold nums
      rw [List.map_append]
    by_cases d : 1 < l
    · rw [decide_eq_true (by omega : (1 : Int) < (l : Int))]
      refine iteT ⟨_, rfl, sz1, fun q hq => fin [l] q _ ?_ (Nat.le_refl 1) ?_ (S1.trans (same_new hq)) upd_same⟩
      · unfold pdL
        rw [hz]
        show f0 ++ (if 1 < l then [l] else []) = _
        rw [if_pos d]
      · rw [upd_ne (ne_of_none hf hq)]
        exact hf
    · rw [decide_eq_false (by omega : ¬ (1 : Int) < (l : Int))]
      refine iteF ⟨by decide, fun q hq => fin [] q _ ?_ (by decide) ?_ (S1.trans (same_new hq)) upd_same⟩
      · unfold pdL
        rw [hz]
        show f0 ++ (if 1 < l then [l] else []) = _
        rw [if_neg d]
      · rw [upd_ne (ne_of_none hf hq)]
        exact hf
end
abbrev s_primes_for : Stmt := top 38
theorem sc_primes_for : FnScope ["sign", "n", "prime"] ["sign", "n"] (defScope s_primes_for) := ⟨rfl, rfl, rfl, by decide +kernel, rfl, by decide +kernel, by decide +kernel⟩
abbrev N_primes_for : List Str := ["sign", "n", "prime"]
def spPF : Sp := fun vs H Q _ => ∃ (sg : Int) (v : Nat), vs = [.int sg, .int v] ∧ 1 ≤ v ∧ v ≤ 20 ∧ ∀ (l : Addr) (H' : Hp), Same H H' → H' l = some (.lst ((primesP sg v).map V.int)) → Q (.ref l) H'
theorem filter_take {α : Type} (f : α → Bool) : ∀ (l : List α) (i : Nat) (x : α), l[i]? = some x → (l.take (i + 1)).filter f = (l.take i).filter f ++ (if f x = true then [x] else [])
  | [], i, x, h => by simp at h
  | a :: l, 0, x, h => by
    have e : a = x := Option.some.inj h
    subst e
    show List.filter f [a] = List.filter f [] ++ _
    by_cases c : f a = true
    · rw [if_pos c, List.filter_cons, if_pos c]; rfl
    · rw [if_neg c, List.filter_cons, if_neg c]; rfl
  | a :: l, i + 1, x, h => by
    have ih := filter_take f l i x h
    show List.filter f (a :: l.take (i + 1)) = List.filter f (a :: l.take i) ++ _
    rw [List.filter_cons, List.filter_cons, ih]
    by_cases c : f a = true
    · rw [if_pos c, if_pos c]; rfl
    · rw [if_neg c, if_neg c]
section
variable {P : Program} {w : World} {K : PySem.W.Frag} {mg : Str → Option Value} {base : Heap}
theorem d_primes_for (F : At K mg "primes_for" s_primes_for) (D_prime_divisors : Dn P w K mg base CX0 1 "prime_divisors" ["value"] spPD) : Dn P w K mg base CX0 2 "primes_for" ["sign", "n"] spPF := by
  refine F.ok sc_primes_for (fun vs H Q E h => ?_) (fun _ _ _ _ _ _ us hl => match us, hl with | [_, _], _ => rfl) (fun f cdv A outer s H vs Q E hr h => ?_)
  · obtain ⟨_, _, rfl, _⟩ := h
    rfl
  obtain ⟨sg, v, rfl, v1, v2, k⟩ := h
  refine ⟨_, (pss_one (ps_ret (pe_lc (own := [("prime", 2)]) (g := gName 2) rfl sc_primes_for.nd (pi_list (pe_fn D_prime_divisors hr (by decide) rfl (pa_cons (pv 1) pa_nil))) (blkOk_by (own := [("prime", 2)]) (N := N_primes_for) (sc := defScope s_primes_for) (by decide +kernel)) (fun _ _ _ _ _ => pg_name (i := 2) sc_primes_for.nd rfl (Or.inl rfl)) (fun _ _ _ _ _ => pts_one (PW.pt (pw_or (pt_cmpR op_gt (pv 0) pe_int (nomark _)) (pw_or1 (pt_cmpR op_gt (pv 2) pe_int (nomark _)))))) (fun _ _ _ _ _ => (pv 2))))), ?_⟩
  refine ⟨_, rfl, v, rfl, v1, v2, fun l H1 hl0 S1 hl => ⟨l, rfl, ⟨_, SqL.of hl⟩, fun D hD => ?_⟩⟩
  let ns : List Int := (pdL v).map Int.ofNat
  have en : nums (pdL v) = ns.map V.int := by
    show _ = ((pdL v).map Int.ofNat).map V.int
    rw [List.map_map]
    rfl
  have hlen := pdL_len v (by omega) v1
  refine lc_go (J := Itl K l) (n := (nums (pdL v)).length) (j := 2) (Src.list (SqL.of hl)) hD (by unfold nums; rw [List.length_map]; omega) (fun _ => rfl) (fun i ys G => ys = ((ns.take i).filter fun q => decide (0 < sg) || decide (2 < q)).map V.int) rfl (fun _ _ _ _ _ h => h) ?_ ?_
  · rintro i x ys H2 hi hx _ S2 hy I Qe Qn ke kn
    rw [en, List.getElem?_map] at hx
    obtain ⟨z, hz, rfl⟩ : ∃ z, ns[i]? = some z ∧ x = V.int z := by
      cases e : ns[i]? with
      | none => rw [e] at hx; cases hx
      | some z => rw [e] at hx; exact ⟨z, rfl, (Option.some.inj hx).symm⟩
    have ft := filter_take (fun q => decide (0 < sg) || decide (2 < q)) ns i z hz
    have yes : (decide (0 < sg) || decide (2 < z)) = true → Qe (.int z) H2 := fun c => ke _ _ (Same.refl _) (by rw [ft, if_pos c, List.map_append, I]; rfl)
    have no : (decide (0 < sg) || decide (2 < z)) = false → Qn H2 := fun c => kn _ (Same.refl _) (by rw [ft, if_neg (by rw [c]; decide), List.append_nil, I])
    refine ⟨_, rfl, _, _, rfl, rfl, _, rfl, ?_⟩
    cases hd : decide (0 < sg) with
    | true =>
      rw [hd] at yes
      refine iteT (iteT (B := Qn H2) ⟨_, rfl, yes rfl⟩)
    | false =>
      rw [hd] at yes no
      refine iteF ⟨_, rfl, _, _, rfl, rfl, _, rfl, ?_⟩
      cases he : decide (2 < z) with
      | true =>
        rw [he] at yes
        exact iteT (B := Qn H2) ⟨_, rfl, yes rfl⟩
      | false =>
        rw [he] at no
        exact iteF (no rfl)
  · intro ys H2 S2 hy _ I
    refine k D H2 (S1.trans S2) ?_
    rw [hy, I]
    have e : ns.take (nums (pdL v)).length = ns := List.take_of_length_le (Nat.le_of_eq ((congrArg List.length en).trans (List.length_map (as := ns) V.int)).symm)
    rw [e]
    have := pd_primes v (by omega) v1 (decide (0 < sg))
    show some (HO.lst ((((pdL v).map Int.ofNat).filter fun q => decide (0 < sg) || decide (2 < q)).map V.int)) = _
    rw [this]
    rfl
end
/-! the kind as data -/
def kindD (p : Plan) : PyData := .tuple [.int p.s, (if p.g = 0 then .str "all" else .tuple ((primesP p.s p.g).map PyData.int)), .bool p.four]
theorem dp_ints {K : PySem.W.Frag} {H : Hp} : ∀ l : List Int, DpAll K H (l.map V.int) (l.map PyData.int)
  | [] => .nil
  | i :: l => .cons (.int i) (dp_ints l)
abbrev s_own_kind : Stmt := top 39
theorem sc_own_kind : FnScope ["number", "sign", "power", "primes"] ["number"] (defScope s_own_kind) := ⟨rfl, rfl, rfl, by decide +kernel, rfl, by decide +kernel, by decide +kernel⟩
abbrev N_own_kind : List Str := ["number", "sign", "power", "primes"]
def spKind (K : PySem.W.Frag) : Sp := fun vs H Q _ => ∃ (a : Addr) (p : Plan), vs = [.ref a] ∧ NumAt H a p ∧ PlanOk p ∧ ∀ (v : V) (H' : Hp), Same H H' → Dp K H' v (kindD p) → Q v H'
section
variable {P : Program} {w : World} {K : PySem.W.Frag} {mg : Str → Option Value} {base : Heap}
theorem d_own_kind (F : At K mg "own_kind" s_own_kind) (B : Blt mg) {tk : Tok} (h_ALL : mg "ALL" = some (.str "all" tk)) (D_base_for : Dn P w K mg base CX0 5 "base_for" ["number"] spBaseFor) (D_primes_for : Dn P w K mg base CX0 2 "primes_for" ["sign", "n"] spPF) (D_four_for : Dn P w K mg base CX0 7 "four_for" ["number"] spFour) :
    Dn P w K mg base CX0 8 "own_kind" ["number"] (spKind K) := by
  refine F.ok sc_own_kind (fun vs H Q E h => ?_) (fun _ _ _ _ _ _ us hl => match us, hl with | [_], _ => rfl) (fun f cdv A outer s H vs Q E hr h => ?_)
  · obtain ⟨_, _, rfl, _⟩ := h
    rfl
  obtain ⟨a, p, rfl, ha, hp, k⟩ := h
  refine ⟨_, (pss_cons (ps_par (i := 1) (j := 2) rfl sc_own_kind.nd rfl rfl (by decide) rfl rfl (pa_cons (pe_ifExp (pt_cmpR op_gt (pe_ix (r := rIxT K) ix_tup (pv 0) pe_int (fun _ _ => rfl)) pe_int (nomark _)) pe_int (pe_un un_neg pe_int)) (pa_cons (pe_ix (r := rIxT K) ix_tup (pe_fn D_base_for hr (by decide) rfl (pa_cons (pv 0) pa_nil)) pe_int (fun _ _ => rfl)) pa_nil)) (by rfl))
  (pss_cons (ps_set (i := 3) sc_own_kind.nd rfl (.inl rfl) (pe_ifExp (pt_cmpR op_eq (pv 2) pe_int (nomark _)) (pe_glob (v := .str "all") rfl h_ALL ⟨_, rfl⟩) (pe_callTy call_tuple_of (by rfl) B.tuple (by decide +kernel) (pa_cons (pe_fn D_primes_for hr (by decide) rfl (pa_cons (pv 1) (pa_cons (pv 2) pa_nil))) pa_nil))))
  (pss_one (ps_ret (pe_tup (pa_cons (pv 1) (pa_cons (pv 3) (pa_cons (pe_cmpR op_notN (pe_fn D_four_for hr (by decide) rfl (pa_cons (pv 0) pa_nil)) pe_non (nomark _)) pa_nil)))))))), ?_⟩
  have gl := hp.w.g_le
  -- the last two lines
  have rest : ∀ (v : V) (H1 : Hp), Same H H1 → Dp K H1 v (if p.g = 0 then .str "all" else .tuple ((primesP p.s p.g).map PyData.int)) →
      tRet (tTup (tCons (tVar 1) (tCons (tVar 3) (tCons (tOp (fun x y H Q => y = .non ∧ Q (.bl (!decide (x = .non))) H) (tCall spFour [] E0 (tCons (tVar 0) tNil)) (tC V.non)) tNil)))) { nx := fun _ H' => Q .non H', rt := Q } [some (.ref a), some (.int p.s), some (.int (p.g : Int)), some v] H1 := by
    intro v H1 S1 hv
    refine ⟨_, rfl, _, rfl, _, rfl, a, p, rfl, ha.on S1, hp, fun y H2 S2 hy => ⟨rfl, sz3, fun q hq => ?_⟩⟩
    rw [hy, Bool.not_not]
    refine k _ _ (S1.trans (S2.trans (same_new hq))) ?_
    have hv2 : Dp K H2 v _ := dp_on S2 hv
    exact .tup (SqT.of upd_same) (.cons (.int _) (.cons (dp_on (same_new hq) hv2) (.cons (.bl _) .nil)))
  refine ⟨_, rfl, a, _, 0, _, rfl, rfl, SqT.of ha, rfl, _, _, rfl, rfl, _, rfl, ?_⟩
  have step : ∀ H0, Same H H0 → (∀ (R : V → Hp → Prop), (∀ H1, Same H H1 → R (.int (p.g : Int)) H1) → tOp (rIxT K) (tCall spBaseFor [] E0 (tCons (tVar 0) tNil)) (tC (V.int 1)) (L2.start N_own_kind [V.ref a]) H0 R) := by
    intro H0 S0 R hR
    exact ⟨_, rfl, a, p, rfl, ha.on S0, hp.w, fun r1 r2 q1 q2 H1 _ _ S1 hq1 _ => ⟨q1, _, 1, _, rfl, rfl, SqT.of hq1, rfl, hR _ (S0.trans S1)⟩⟩
  have main : ∀ H1, Same H H1 → tSeq (tAsg (tIf (tTest (tOp rEq (tVar 2) (tC (V.int 0)))) (tC (V.str "all")) (tCB (fun xs H Q => ∃ p ys, xs = [.ref p] ∧ ((SqL K H p ys ∧ ∀ l, H l = none → Q (.ref l) (upd H l (.tup ys))) ∨ (SqT K H p ys ∧ Q (.ref p) H))) (tCons (tCall spPF [] E0 (tCons (tVar 1) (tCons (tVar 2) tNil))) tNil))) (gName 3))
      (tRet (tTup (tCons (tVar 1) (tCons (tVar 3) (tCons (tOp (fun x y H Q => y = .non ∧ Q (.bl (!decide (x = .non))) H) (tCall spFour [] E0 (tCons (tVar 0) tNil)) (tC V.non)) tNil))))) { nx := fun _ H' => Q .non H', rt := Q } [some (.ref a), some (.int p.s), some (.int (p.g : Int)), none] H1 := by
    intro H1 S1
    refine ⟨_, rfl, rfl, _, rfl, ?_⟩
    by_cases c : p.g = 0
    · have e : decide (V.int (p.g : Int) = V.int 0) = true := by rw [c]; rfl
      rw [e]
      refine iteT (rest _ H1 S1 ?_)
      rw [if_pos c]
      exact .str _
    · have e : decide (V.int (p.g : Int) = V.int 0) = false := decide_eq_false fun z => c (by injection z with z; omega)
      rw [e]
      refine iteF ⟨_, rfl, _, rfl, p.s, p.g, rfl, by omega, gl, fun l H2 S2 hl => ⟨l, _, rfl, .inl ⟨SqL.of hl, fun q hq => rest _ _ (S1.trans (S2.trans (same_new hq))) ?_⟩⟩⟩
      rw [if_neg c]
      exact .tup (SqT.of upd_same) (dp_ints _)
  by_cases c : 0 < p.s
  · rw [decide_eq_true (hp.w.pos_iff.mpr c)]
    have es : p.s = 1 := by rcases hp.w.s with z | z <;> omega
    refine iteT (step H (Same.refl H) _ fun H1 S1 => ⟨_, _, rfl, ?_⟩)
    have := main H1 S1
    rw [es] at this
    exact this
  · rw [decide_eq_false (fun z => c (hp.w.pos_iff.mp z))]
    have es : p.s = -1 := by rcases hp.w.s with z | z <;> omega
    refine iteF ⟨_, rfl, step H (Same.refl H) _ fun H1 S1 => ⟨_, _, rfl, ?_⟩⟩
    have := main H1 S1
    rw [es] at this
    exact this
end
abbrev s_kind_of : Stmt := top 40
theorem sc_kind_of : FnScope ["number"] ["number"] (defScope s_kind_of) := ⟨rfl, rfl, rfl, by decide +kernel, rfl, by decide +kernel, by decide +kernel⟩
abbrev N_kind_of : List Str := ["number"]
section
variable {P : Program} {w : World} {K : PySem.W.Frag} {mg : Str → Option Value} {base : Heap}
theorem d_kind_of (F : At K mg "kind_of" s_kind_of) (D_check_number : Dn P w K mg base CX0 4 "check_number" ["value"] spChk) (D_own_kind : Dn P w K mg base CX0 8 "own_kind" ["number"] (spKind K)) : Dn P w K mg base CX0 9 "kind_of" ["number"] (spKind K) := by
  refine F.ok sc_kind_of (fun vs H Q E h => ?_) (fun _ _ _ _ _ _ us hl => match us, hl with | [_], _ => rfl) (fun f cdv A outer s H vs Q E hr h => ?_)
  · obtain ⟨_, _, rfl, _⟩ := h
    rfl
  obtain ⟨a, p, rfl, ha, hp, k⟩ := h
  refine ⟨_, (pss_cons (ps_expr (pe_fn D_check_number hr (by decide) rfl (pa_cons (pv 0) pa_nil)))
  (pss_one (ps_ret (pe_fn D_own_kind hr (by decide) rfl (pa_cons (pv 0) pa_nil))))), ?_⟩
  exact ⟨_, rfl, a, p, rfl, ha, hp, _, rfl, a, p, rfl, ha, hp, k⟩
end
end Pp
-- B1
namespace Pp
open PySem PySem.Spec PyProof.Rows L2
/-! wishes -/
inductive Wi where
  | spl (b : Bool) (A : Str) (n : Nat)
  | alw (A : Str)
  | alike (A B : Str)
def Wi.vs : Wi → List V
  | .spl b A n => [.str (if b then "splits" else "whole"), .str A, .int (n : Int)]
  | .alw A => [.str "always", .str A]
  | .alike A B => [.str "alike", .str A, .str B]
def Wi.word : Wi → Str
  | .spl b _ _ => if b then "splits" else "whole"
  | .alw _ => "always"
  | .alike _ _ => "alike"
def Wi.names : Wi → List Str
  | .spl _ A _ => [A]
  | .alw A => [A]
  | .alike A B => [A, B]
def WiAt (H : Hp) (x : Addr) (w : Wi) : Prop := H x = some (.tup w.vs)
def WiOk : Wi → Prop
  | .spl _ A n => Title A ∧ 1 ≤ n ∧ n ≤ 10 ^ 30
  | .alw A => Title A
  | .alike A B => Title A ∧ Title B
theorem Wi.vs_word (w : Wi) : ∃ r, w.vs = .str w.word :: r := by cases w <;> exact ⟨_, rfl⟩
/-- a table of the text: under which words what stands -/
structure Tbl (K : PySem.W.Frag) (w : World) (mg : Str → Option Value) (x : Str) (l : List (Str × Int)) (no : List Str) : Prop where
  ex : ∃ d es n, mg x = some (.ref d) ∧ KDict K w d es n ∧ (∀ p ∈ l, ∃ t, PySem.W.nsIn K d p.1 = some (some (.int p.2 t))) ∧ ∀ z ∈ no, PySem.W.nsIn K d z = some none
def formsL : List (Str × Int) := [("splits", 3), ("whole", 3), ("always", 2), ("alike", 3)]
def itemsL : List (Str × Int) := [("put", 3), ("drop", 2), ("wish", 2), ("lift", 2)]
/-! slices and sums of tuples: something of these items -/
theorem sl_of {K : PySem.W.Frag} {H : Hp} {a : Addr} {xs : List V} {lo hi : Option Int} {Q : VK} (h : H a = some (.tup xs)) (k : ∀ p H', Same H H' → H' p = some (.tup (cutV xs lo hi)) → Q (.ref p) H') : rSlA K (.ref a) lo hi H Q := by
  refine ⟨a, xs, rfl, SqT.of h, fun ⟨z1, z2⟩ => k a H (Same.refl H) ?_, fun _ p hp => k p _ (same_new hp) upd_same⟩
  have e : cutV xs lo hi = xs := by
    unfold cutV
    rw [z1, z2, List.drop_zero]
    exact List.take_of_length_le (by omega)
  rw [e]
  exact h
theorem cat_of {K : PySem.W.Frag} {H : Hp} {a b : Addr} {xs ys : List V} {Q : VK} (h : H a = some (.tup xs)) (h2 : H b = some (.tup ys)) (hz : xs.length + ys.length ≤ sizeLine) (k : ∀ p H', Same H H' → H' p = some (.tup (xs ++ ys)) → Q (.ref p) H') : rCatA K (.ref a) (.ref b) H Q := by
  refine ⟨a, b, xs, ys, rfl, rfl, SqT.of h, SqT.of h2, hz, fun e => k b H (Same.refl H) ?_, fun _ e => k a H (Same.refl H) ?_, fun _ _ p hp => k p _ (same_new hp) upd_same⟩
  · rw [e]; exact h2
  · rw [e, List.append_nil]; exact h
abbrev s_begins_with_word : Stmt := top 50
theorem sc_begins_with_word : FnScope ["value"] ["value"] (defScope s_begins_with_word) := ⟨rfl, rfl, rfl, by decide +kernel, rfl, by decide +kernel, by decide +kernel⟩
abbrev N_begins_with_word : List Str := ["value"]
def spBegins : Sp := fun vs H Q _ => ∃ v, vs = [v] ∧ ((∃ x z r, v = .ref x ∧ H x = some (.tup (.str z :: r)) ∧ Q (.bl true) H) ∨ (Q (.bl false) H ∧ ((∃ x, v = .ref x ∧ H x = some (.tup [])) ∨ (∃ x l, v = .ref x ∧ H x = some (.lst l)) ∨ (∃ z, v = .str z) ∨ v = .non ∨ ∃ i, v = .int i)))
section
variable {P : Program} {w : World} {K : PySem.W.Frag} {mg : Str → Option Value} {base : Heap}
theorem d_begins_with_word (F : At K mg "begins_with_word" s_begins_with_word) (B : Blt mg) : Dn P w K mg base CX0 1 "begins_with_word" ["value"] spBegins := by
  refine F.ok sc_begins_with_word (fun vs H Q E h => ?_) (fun _ _ _ _ _ _ us hl => match us, hl with | [_], _ => rfl) (fun f cdv A outer s H vs Q E hr h => ?_)
  · obtain ⟨_, rfl, _⟩ := h
    rfl
  obtain ⟨v, rfl, k⟩ := h
  refine ⟨_, (pss_one (ps_ret (pe_and (pe_callB (id := "isinstance") (r := rIsi K) call_isi (by rfl) B.isinstance (by decide +kernel) (pa_cons (pv 0) (pa_cons (pe_bltn (v := .ty "tuple") (by rfl) B.tuple (by decide +kernel) rfl) pa_nil))) (pe_and (pe_cmpR op_gt (pe_callB (id := "len") call_len_seq (by rfl) B.len (by decide +kernel) (pa_cons (pv 0) pa_nil)) pe_int (nomark _)) (pe_one (pe_callB (id := "isinstance") (r := rIsi K) call_isi (by rfl) B.isinstance (by decide +kernel) (pa_cons (pe_ix (r := rIxT K) ix_tup (pv 0) pe_int (fun _ _ => rfl)) (pa_cons (pe_bltn (v := .ty "str") (by rfl) B.str (by decide +kernel) rfl) pa_nil)))))))), ?_⟩
  rcases k with ⟨x, z, r, rfl, hx, k⟩ | ⟨k, ⟨x, rfl, hx⟩ | ⟨x, l, rfl, hx⟩ | ⟨z, rfl⟩ | rfl | ⟨i, rfl⟩⟩
  · refine ⟨_, rfl, _, _, _, _, true, rfl, .ty _, .base (.tup hx), kit_ty (by decide +kernel), _, rfl, iteT ?_⟩
    refine ⟨_, rfl, _, _, rfl, .inr (SqT.of hx), _, _, rfl, rfl, _, rfl, ?_⟩
    rw [decide_eq_true (by show (0 : Int) < ((r.length + 1 : Nat) : Int); omega)]
    refine iteT ⟨_, rfl, x, _, 0, _, rfl, rfl, SqT.of hx, atI_nat (j := 0) rfl, _, _, _, _, true, rfl, .ty _, .base (.str _), kit_ty (by decide +kernel), k⟩
  · refine ⟨_, rfl, _, _, _, _, true, rfl, .ty _, .base (.tup hx), kit_ty (by decide +kernel), _, rfl, iteT ?_⟩
    exact ⟨_, rfl, _, _, rfl, .inr (SqT.of hx), _, _, rfl, rfl, _, rfl, iteF k⟩
  · exact ⟨_, rfl, _, _, _, _, false, rfl, .ty _, .base (.lst hx), kit_ty (by decide +kernel), _, rfl, iteF k⟩
  · exact ⟨_, rfl, _, _, _, _, false, rfl, .ty _, .base (.str _), kit_ty (by decide +kernel), _, rfl, iteF k⟩
  · exact ⟨_, rfl, _, _, _, _, false, rfl, .ty _, .base .non, kit_ty (by decide +kernel), _, rfl, iteF k⟩
  · exact ⟨_, rfl, _, _, _, _, false, rfl, .ty _, .base (.int _), kit_ty (by decide +kernel), _, rfl, iteF k⟩
end
abbrev s_is_wish : Stmt := top 51
theorem sc_is_wish : FnScope ["value"] ["value"] (defScope s_is_wish) := ⟨rfl, rfl, rfl, by decide +kernel, rfl, by decide +kernel, by decide +kernel⟩
abbrev N_is_wish : List Str := ["value"]
def spIsWish : Sp := fun vs H Q _ => ∃ x w, vs = [.ref x] ∧ WiAt H x w ∧ WiOk w ∧ ∀ H', Same H H' → Q (.bl true) H'
section
variable {P : Program} {w : World} {K : PySem.W.Frag} {mg : Str → Option Value} {base : Heap}
theorem d_is_wish (F : At K mg "is_wish" s_is_wish) (B : Blt mg) (TF : Tbl K w mg "FORMS" formsL []) {tk : Tok} (h_MOST_SIZE : mg "MOST_SIZE" = some (.int (10 ^ 30) tk)) (D_begins_with_word : Dn P w K mg base CX0 1 "begins_with_word" ["value"] spBegins) (D_is_between : Dn P w K mg base CX0 2 "is_between" ["value", "low", "high"] spBetween) :
    Dn P w K mg base CX0 3 "is_wish" ["value"] spIsWish := by
  obtain ⟨dF, es, n0, gF, hF, iF, _⟩ := TF.ex
  refine F.ok sc_is_wish (fun vs H Q E h => ?_) (fun _ _ _ _ _ _ us hl => match us, hl with | [_], _ => rfl) (fun f cdv A outer s H vs Q E hr h => ?_)
  · obtain ⟨_, _, rfl, _⟩ := h
    rfl
  obtain ⟨x, wi, rfl, hx, hw, k⟩ := h
  refine ⟨_, (pss_cons (ps_if (PW.pt (pw_or (pt_not (pt_val (pe_fn D_begins_with_word hr (by decide) rfl (pa_cons (pv 0) pa_nil)))) (pw_or (pt_cmpR (op_notIn_kd hF) (pe_ix (r := rIxT K) ix_tup (pv 0) pe_int (fun _ _ => rfl)) (pe_glob (v := .ref dF) rfl gF rfl) rfl) (pw_or1 (pt_cmpR op_ne (pe_callB (id := "len") call_len_seq (by rfl) B.len (by decide +kernel) (pa_cons (pv 0) pa_nil)) (pe_ix (r := rIxD K w) ix_kdict (pe_glob (v := .ref dF) rfl gF rfl) (pe_ix (r := rIxT K) ix_tup (pv 0) pe_int (fun _ _ => rfl)) (fun _ _ => rfl)) (nomark _)))))) (pss_one (ps_ret pe_bl)) pss_nil)
  (pss_one (ps_ret (pe_or (pe_cmpR op_in_seq (pe_ix (r := rIxT K) ix_tup (pv 0) pe_int (fun _ _ => rfl)) (pe_tup (pa_cons pe_str (pa_cons pe_str pa_nil))) rfl) (pe_one (pe_fn D_is_between hr (by decide) rfl (pa_cons (pe_ix (r := rIxT K) ix_tup (pv 0) pe_int (fun _ _ => rfl)) (pa_cons pe_int (pa_cons (pe_glob (v := .int (10 ^ 30)) rfl h_MOST_SIZE ⟨_, rfl⟩) pa_nil))))))))), ?_⟩
  have kd : ∀ p ∈ formsL, KDct K w dF p.1 (.int p.2) := fun p hp => by
    obtain ⟨t, ht⟩ := iF p hp
    exact ⟨es, n0, _, hF.at_, hF.lit, ht, _, rfl⟩
  have ns : ∀ p ∈ formsL, ∃ u, PySem.W.nsIn K dF p.1 = some (some u) := fun p hp => by
    obtain ⟨t, ht⟩ := iF p hp
    exact ⟨_, ht⟩
  obtain ⟨z, r, e, hm⟩ : ∃ z r, wi.vs = .str z :: r ∧ (z, ((r.length + 1 : Nat) : Int)) ∈ formsL := by
    cases wi with
    | spl b A n => cases b <;> exact ⟨_, _, rfl, by simp [formsL]⟩
    | alw A => exact ⟨_, _, rfl, by simp [formsL]⟩
    | alike A B => exact ⟨_, _, rfl, by simp [formsL]⟩
  have hx' : H x = some (.tup (.str z :: r)) := by rw [← e]; exact hx
  obtain ⟨u, hu⟩ := ns _ hm
  refine ⟨_, rfl, _, rfl, .inl ⟨x, z, r, rfl, hx', _, rfl, iteF ⟨_, rfl, x, _, 0, _, rfl, rfl, SqT.of hx', atI_nat (j := 0) rfl, z, _, rfl, rfl, hu, _, rfl, iteF ?_⟩⟩⟩
  refine ⟨_, rfl, _, _, rfl, .inr (SqT.of hx'), _, rfl, x, _, 0, _, rfl, rfl, SqT.of hx', atI_nat (j := 0) rfl, dF, z, _, rfl, rfl, kd _ hm, rfl, _, rfl, ?_⟩
  rw [decide_eq_true (show V.int (((V.str z :: r).length : Nat) : Int) = V.int ((r.length + 1 : Nat) : Int) from rfl)]
  refine iteF ⟨_, rfl, x, _, 0, _, rfl, rfl, SqT.of hx', atI_nat (j := 0) rfl, sz2, fun q hq => ⟨q, _, rfl, .inr (SqT.of upd_same), rfl, rfl, _, rfl, ?_⟩⟩
  have S1 : Same H (upd H q (.tup [V.str "always", V.str "alike"])) := same_new hq
  have hx2 := S1 _ _ hx
  have ez : z = wi.word := by
    obtain ⟨r2, e3⟩ := wi.vs_word
    rw [e3] at e
    have := (List.cons.inj e).1
    exact (V.str.inj this).symm
  subst ez
  cases wi with
  | spl b A n =>
    obtain ⟨_, n1, n2⟩ := hw
    have ni : inV (V.str (if b = true then "splits" else "whole")) [V.str "always", V.str "alike"] = false := by cases b <;> decide +kernel
    have ni' : inV (V.str (Wi.word (.spl b A n))) [V.str "always", V.str "alike"] = false := ni
    rw [ni']
    have e10 : ((10 : Int) ^ 30) = ((10 ^ 30 : Nat) : Int) := by decide
    have bt : (decide ((1 : Int) ≤ (n : Int)) && decide ((n : Int) ≤ 10 ^ 30)) = true := by
      rw [Bool.and_eq_true, decide_eq_true_eq, decide_eq_true_eq, e10]
      omega
    refine iteF ⟨_, rfl, x, _, 2, _, rfl, rfl, SqT.of hx2, rfl, _, _, _, rfl, ?_⟩
    rw [bt]
    exact k _ S1
  | alw A =>
    have ni : inV (V.str (Wi.word (.alw A))) [V.str "always", V.str "alike"] = true := show inV (V.str "always") [V.str "always", V.str "alike"] = true by decide +kernel
    rw [ni]
    exact iteT (k _ S1)
  | alike A B =>
    have ni : inV (V.str (Wi.word (.alike A B))) [V.str "always", V.str "alike"] = true := show inV (V.str "alike") [V.str "always", V.str "alike"] = true by decide +kernel
    rw [ni]
    exact iteT (k _ S1)
end
/-! deeds -/
inductive Deed where
  | put (A : Str) (p : Plan)
  | drop (A : Str)
  | wish (w : Wi)
  | lift (i : Nat)
def DeedAt (H : Hp) (v : V) : Deed → Prop
  | .put A p => ∃ x a, v = .ref x ∧ H x = some (.tup [.str "put", .str A, .ref a]) ∧ NumAt H a p
  | .drop A => ∃ x, v = .ref x ∧ H x = some (.tup [.str "drop", .str A])
  | .wish w => ∃ x y, v = .ref x ∧ H x = some (.tup [.str "wish", .ref y]) ∧ WiAt H y w
  | .lift i => ∃ x, v = .ref x ∧ H x = some (.tup [.str "lift", .int (i : Int)])
/-- no deed: a tuple of another word or length, or no such tuple -/
inductive BadAt (H : Hp) : V → Prop where
  | word {x : Addr} {r : List V} (h : H x = some (.tup (.str "Put" :: r))) : BadAt H (.ref x)
  | len {x : Addr} {z : Str} {n : Int} {r : List V} (h : H x = some (.tup (.str z :: r))) (hm : (z, n) ∈ itemsL) (hl : ¬ ((r.length + 1 : Nat) : Int) = n) : BadAt H (.ref x)
  | nil {x : Addr} (h : H x = some (.tup [])) : BadAt H (.ref x)
  | lst {x : Addr} {l : List V} (h : H x = some (.lst l)) : BadAt H (.ref x)
  | str (z : Str) : BadAt H (.str z)
  | non : BadAt H .non
  | int (i : Int) : BadAt H (.int i)
theorem DeedAt.on {H H' : Hp} (S : Same H H') {v : V} {d : Deed} (h : DeedAt H v d) : DeedAt H' v d := by
  cases d with
  | put A p =>
    obtain ⟨x, a, e, h1, h2⟩ := h
    exact ⟨x, a, e, S _ _ h1, S _ _ h2⟩
  | drop A =>
    obtain ⟨x, e, h1⟩ := h
    exact ⟨x, e, S _ _ h1⟩
  | wish w =>
    obtain ⟨x, y, e, h1, h2⟩ := h
    exact ⟨x, y, e, S _ _ h1, S _ _ h2⟩
  | lift i =>
    obtain ⟨x, e, h1⟩ := h
    exact ⟨x, e, S _ _ h1⟩
theorem BadAt.on {H H' : Hp} (S : Same H H') {v : V} (h : BadAt H v) : BadAt H' v := by
  cases h with
  | word h => exact .word (S _ _ h)
  | len h hm hl => exact .len (S _ _ h) hm hl
  | nil h => exact .nil (S _ _ h)
  | lst h => exact .lst (S _ _ h)
  | str z => exact .str z
  | non => exact .non
  | int i => exact .int i
/-- what a deed's tuple begins with -/
theorem DeedAt.shape {H : Hp} {v : V} {d : Deed} (h : DeedAt H v d) : ∃ x z r, v = .ref x ∧ H x = some (.tup (.str z :: r)) ∧ (z, ((r.length + 1 : Nat) : Int)) ∈ itemsL := by
  cases d with
  | put A p =>
    obtain ⟨x, a, e, h1, h2⟩ := h
    exact ⟨x, _, _, e, h1, by simp [itemsL]⟩
  | drop A =>
    obtain ⟨x, e, h1⟩ := h
    exact ⟨x, _, _, e, h1, by simp [itemsL]⟩
  | wish w =>
    obtain ⟨x, y, e, h1, h2⟩ := h
    exact ⟨x, _, _, e, h1, by simp [itemsL]⟩
  | lift i =>
    obtain ⟨x, e, h1⟩ := h
    exact ⟨x, _, _, e, h1, by simp [itemsL]⟩
abbrev s_is_deed : Stmt := top 52
theorem sc_is_deed : FnScope ["value"] ["value"] (defScope s_is_deed) := ⟨rfl, rfl, rfl, by decide +kernel, rfl, by decide +kernel, by decide +kernel⟩
abbrev N_is_deed : List Str := ["value"]
def spIsDeed : Sp := fun vs H Q _ => ∃ v, vs = [v] ∧ (((∃ d, DeedAt H v d) ∧ Q (.bl true) H) ∨ (BadAt H v ∧ Q (.bl false) H))
section
variable {P : Program} {w : World} {K : PySem.W.Frag} {mg : Str → Option Value} {base : Heap}
theorem d_is_deed (F : At K mg "is_deed" s_is_deed) (B : Blt mg) (TF : Tbl K w mg "ITEMS_OF" itemsL ["Put"]) (D_begins_with_word : Dn P w K mg base CX0 1 "begins_with_word" ["value"] spBegins) : Dn P w K mg base CX0 2 "is_deed" ["value"] spIsDeed := by
  obtain ⟨dF, es, n0, gF, hF, iF, oF⟩ := TF.ex
  refine F.ok sc_is_deed (fun vs H Q E h => ?_) (fun _ _ _ _ _ _ us hl => match us, hl with | [_], _ => rfl) (fun f cdv A outer s H vs Q E hr h => ?_)
  · obtain ⟨_, rfl, _⟩ := h
    rfl
  obtain ⟨v, rfl, k⟩ := h
  refine ⟨_, (pss_one (ps_ret (pe_and (pe_fn D_begins_with_word hr (by decide) rfl (pa_cons (pv 0) pa_nil)) (pe_and (pe_cmpR (op_in_kd hF) (pe_ix (r := rIxT K) ix_tup (pv 0) pe_int (fun _ _ => rfl)) (pe_glob (v := .ref dF) rfl gF rfl) rfl) (pe_one (pe_cmpR op_eq (pe_callB (id := "len") call_len_seq (by rfl) B.len (by decide +kernel) (pa_cons (pv 0) pa_nil)) (pe_ix (r := rIxD K w) ix_kdict (pe_glob (v := .ref dF) rfl gF rfl) (pe_ix (r := rIxT K) ix_tup (pv 0) pe_int (fun _ _ => rfl)) (fun _ _ => rfl)) (nomark _))))))), ?_⟩
  have kd : ∀ p ∈ itemsL, KDct K w dF p.1 (.int p.2) := fun p hp => by
    obtain ⟨t, ht⟩ := iF p hp
    exact ⟨es, n0, _, hF.at_, hF.lit, ht, _, rfl⟩
  have yes : ∀ x z r n (b : Bool), H x = some (.tup (.str z :: r)) → (z, n) ∈ itemsL → decide (V.int ((r.length + 1 : Nat) : Int) = V.int n) = b → Q (.bl b) H → v = .ref x → _ := fun x z r n b hx hm hb q ev =>
    (⟨_, rfl, v, rfl, .inl ⟨x, z, r, ev, hx, _, rfl, iteT (by
      subst ev
      obtain ⟨t, ht⟩ := iF _ hm
      refine ⟨_, rfl, x, _, 0, _, rfl, rfl, SqT.of hx, atI_nat (j := 0) rfl, z, _, rfl, rfl, ht, _, rfl, iteT ?_⟩
      refine ⟨_, rfl, _, _, rfl, .inr (SqT.of hx), _, rfl, x, _, 0, _, rfl, rfl, SqT.of hx, atI_nat (j := 0) rfl, dF, z, _, rfl, rfl, kd _ hm, rfl, ?_⟩
      rw [show decide (V.int (((V.str z :: r).length : Nat) : Int) = V.int (z, n).2) = b from hb]
      exact q)⟩⟩ : tRet (tAndV (tCall spBegins [] E0 (tCons (tVar 0) tNil)) (tAndV (tOp (fun x y H Q => ∃ (z : Str) (r : Option Value), x = .str z ∧ y = .ref dF ∧ PySem.W.nsIn K dF z = some r ∧ Q (.bl r.isSome) H) (tOp (rIxT K) (tVar 0) (tC (.int 0))) (tC (.ref dF)))
        (tOp rEq (tCB (fun xs H Q => ∃ p ys, xs = [.ref p] ∧ (SqL K H p ys ∨ SqT K H p ys) ∧ Q (.int ys.length) H) (tCons (tVar 0) tNil)) (tOp (rIxD K w) (tC (.ref dF)) (tOp (rIxT K) (tVar 0) (tC (.int 0))))))) { nx := fun _ H' => Q .non H', rt := Q } (L2.start N_is_deed [v]) H)
  rcases k with ⟨⟨d, hd⟩, k⟩ | ⟨hb, k⟩
  · obtain ⟨x, z, r, e, hx, hm⟩ := hd.shape
    exact yes x z r _ true hx hm (decide_eq_true rfl) k e
  · cases hb with
    | word h => exact ⟨_, rfl, _, rfl, .inl ⟨_, _, _, rfl, h, _, rfl, iteT ⟨_, rfl, _, _, 0, _, rfl, rfl, SqT.of h, atI_nat (j := 0) rfl, _, _, rfl, rfl, oF _ (by simp), _, rfl, iteF k⟩⟩⟩
    | len h hm hl => exact yes _ _ _ _ false h hm (decide_eq_false fun z => hl (by injection z)) k rfl
    | nil h => exact ⟨_, rfl, _, rfl, .inr ⟨⟨_, rfl, iteF k⟩, .inl ⟨_, rfl, h⟩⟩⟩
    | lst h => exact ⟨_, rfl, _, rfl, .inr ⟨⟨_, rfl, iteF k⟩, .inr (.inl ⟨_, _, rfl, h⟩)⟩⟩
    | str z => exact ⟨_, rfl, _, rfl, .inr ⟨⟨_, rfl, iteF k⟩, .inr (.inr (.inl ⟨_, rfl⟩))⟩⟩
    | non => exact ⟨_, rfl, _, rfl, .inr ⟨⟨_, rfl, iteF k⟩, .inr (.inr (.inr (.inl rfl)))⟩⟩
    | int i => exact ⟨_, rfl, _, rfl, .inr ⟨⟨_, rfl, iteF k⟩, .inr (.inr (.inr (.inr ⟨_, rfl⟩)))⟩⟩
end
abbrev s_names_in : Stmt := top 53
theorem sc_names_in : FnScope ["wish"] ["wish"] (defScope s_names_in) := ⟨rfl, rfl, rfl, by decide +kernel, rfl, by decide +kernel, by decide +kernel⟩
abbrev N_names_in : List Str := ["wish"]
def spNamesIn : Sp := fun vs H Q _ => ∃ x w, vs = [.ref x] ∧ WiAt H x w ∧ ∀ p H', Same H H' → H' p = some (.tup (w.names.map V.str)) → Q (.ref p) H'
section
variable {P : Program} {w : World} {K : PySem.W.Frag} {mg : Str → Option Value} {base : Heap}
theorem d_names_in (F : At K mg "names_in" s_names_in) : Dn P w K mg base CX0 1 "names_in" ["wish"] spNamesIn := by
  refine F.ok sc_names_in (fun vs H Q E h => ?_) (fun _ _ _ _ _ _ us hl => match us, hl with | [_], _ => rfl) (fun f cdv A outer s H vs Q E hr h => ?_)
  · obtain ⟨_, _, rfl, _⟩ := h
    rfl
  obtain ⟨x, wi, rfl, hx, k⟩ := h
  refine ⟨_, (pss_one (ps_ret (pe_ifExp (pt_cmpR op_eq (pe_ix (r := rIxT K) ix_tup (pv 0) pe_int (fun _ _ => rfl)) pe_str (nomark _)) (pe_slice sl_tupA (pv 0) (po_some pe_int) (po_some pe_int)) (pe_slice sl_tupA (pv 0) (po_some pe_int) (po_some pe_int))))), ?_⟩
  cases wi with
  | spl b A n =>
    refine ⟨_, rfl, x, _, 0, _, rfl, rfl, SqT.of hx, rfl, rfl, _, rfl, ?_⟩
    rw [show decide (V.str (if b = true then "splits" else "whole") = V.str "alike") = false by cases b <;> decide +kernel]
    exact iteF ⟨_, rfl, _, rfl, _, rfl, sl_of hx k⟩
  | alw A =>
    refine ⟨_, rfl, x, _, 0, _, rfl, rfl, SqT.of hx, rfl, rfl, _, rfl, ?_⟩
    rw [show decide (V.str "always" = V.str "alike") = false by decide +kernel]
    exact iteF ⟨_, rfl, _, rfl, _, rfl, sl_of hx k⟩
  | alike A B =>
    refine ⟨_, rfl, x, _, 0, _, rfl, rfl, SqT.of hx, rfl, rfl, _, rfl, ?_⟩
    rw [show decide (V.str "alike" = V.str "alike") = true by decide +kernel]
    exact iteT ⟨_, rfl, _, rfl, _, rfl, sl_of hx k⟩
end
end Pp
-- B2
namespace Pp
open PySem PySem.Spec PyProof.Rows L2
/-! shelves: names with plans, and the dicts that bear them -/
abbrev Shelf := List (Str × Plan)
def look (sh : Shelf) (A : Str) : Option Plan := (sh.find? fun q => decide (q.1 = A)).map (·.2)
/-- an entry of a dict bears a plan, by R -/
inductive Rel2 (R : Plan → V → Prop) : Shelf → List (Key × V) → Prop
  | nil : Rel2 R [] []
  | cons {x : Str} {p : Plan} {v : V} {sh : Shelf} {kvs : List (Key × V)} (h : R p v) (t : Rel2 R sh kvs) : Rel2 R ((x, p) :: sh) ((Sum.inr x, v) :: kvs)
theorem Rel2.imp {R R' : Plan → V → Prop} (f : ∀ p v, R p v → R' p v) : ∀ {sh : Shelf} {kvs : List (Key × V)}, Rel2 R sh kvs → Rel2 R' sh kvs
  | _, _, .nil => .nil
  | _, _, .cons h t => .cons (f _ _ h) (t.imp f)
theorem Rel2.len {R : Plan → V → Prop} : ∀ {sh : Shelf} {kvs : List (Key × V)}, Rel2 R sh kvs → kvs.length = sh.length
  | _, _, .nil => rfl
  | _, _, .cons _ t => congrArg (· + 1) t.len
theorem Rel2.keys {R : Plan → V → Prop} : ∀ {sh : Shelf} {kvs : List (Key × V)}, Rel2 R sh kvs → kvs.map (·.1) = (sh.map (·.1)).map Sum.inr
  | _, _, .nil => rfl
  | _, _, .cons (x := x) _ t => congrArg (Sum.inr x :: ·) t.keys
theorem inr_eq {x y : Str} : (Sum.inr x : Key) = Sum.inr y ↔ x = y := ⟨fun h => Sum.inr.inj h, fun h => congrArg _ h⟩
theorem Rel2.look {R : Plan → V → Prop} {A : Str} : ∀ {sh : Shelf} {kvs : List (Key × V)}, Rel2 R sh kvs → (look sh A = none ∧ valV kvs (Sum.inr A : Key) = none) ∨ ∃ p v, look sh A = some p ∧ valV kvs (Sum.inr A : Key) = some v ∧ R p v
  | _, _, .nil => .inl ⟨rfl, rfl⟩
  | _, _, .cons (x := x) (p := p) (v := v) (sh := sh) (kvs := kvs) h t => by
    by_cases e : x = A
    · subst e
      right
      refine ⟨p, v, ?_, valV_pos rfl, h⟩
      unfold Pp.look
      rw [List.find?_cons, decide_eq_true rfl]
      rfl
    · have e1 : Pp.look ((x, p) :: sh) A = Pp.look sh A := by
        unfold Pp.look
        rw [List.find?_cons, decide_eq_false e]
      have e2 : valV ((Sum.inr x, v) :: kvs) (Sum.inr A : Key) = valV kvs (Sum.inr A : Key) := valV_neg fun z => e (inr_eq.mp z)
      rw [e1, e2]
      exact t.look
theorem look_mem {A : Str} {p : Plan} : ∀ {sh : Shelf}, look sh A = some p → (A, p) ∈ sh
  | [], h => by cases h
  | (x, q) :: sh, h => by
    by_cases e : x = A
    · subst e
      unfold look at h
      rw [List.find?_cons, decide_eq_true rfl] at h
      cases h
      exact List.mem_cons_self
    · have e1 : look ((x, q) :: sh) A = look sh A := by
        unfold look
        rw [List.find?_cons, decide_eq_false e]
      rw [e1] at h
      exact List.mem_cons_of_mem _ (look_mem h)
def putSh (sh : Shelf) (A : Str) (p : Plan) : Shelf := if (sh.any fun q => decide (q.1 = A)) = true then sh.map (fun q => if q.1 = A then (q.1, p) else q) else sh ++ [(A, p)]
def dropSh (sh : Shelf) (A : Str) : Shelf := sh.filter fun q => decide (q.1 ≠ A)
theorem Rel2.any {R : Plan → V → Prop} {A : Str} : ∀ {sh : Shelf} {kvs : List (Key × V)}, Rel2 R sh kvs → (kvs.any fun kv => decide (kv.1 = (Sum.inr A : Key))) = sh.any fun q => decide (q.1 = A)
  | _, _, .nil => rfl
  | _, _, .cons (x := x) h t => by
    rw [List.any_cons, List.any_cons, t.any]
    congr 1
    exact decide_eq_decide.mpr inr_eq
theorem Rel2.mapPut {R : Plan → V → Prop} {A : Str} {p : Plan} {v : V} (hv : R p v) : ∀ {sh : Shelf} {kvs : List (Key × V)}, Rel2 R sh kvs → Rel2 R (sh.map fun q => if q.1 = A then (q.1, p) else q) (kvs.map fun kv => if kv.1 = (Sum.inr A : Key) then (kv.1, v) else kv)
  | _, _, .nil => .nil
  | _, _, .cons (x := x) h t => by
    rw [List.map_cons, List.map_cons]
    by_cases e : x = A
    · rw [if_pos e, if_pos (inr_eq.mpr e)]
      exact .cons hv (t.mapPut hv)
    · rw [if_neg e, if_neg fun z => e (inr_eq.mp z)]
      exact .cons h (t.mapPut hv)
theorem rel_app {R : Plan → V → Prop} {sh2 : Shelf} {kvs2 : List (Key × V)} (h2 : Rel2 R sh2 kvs2) : ∀ {sh : Shelf} {kvs : List (Key × V)}, Rel2 R sh kvs → Rel2 R (sh ++ sh2) (kvs ++ kvs2)
  | _, _, .nil => h2
  | _, _, .cons h t => .cons h (rel_app h2 t)
theorem Rel2.put {R : Plan → V → Prop} {A : Str} {p : Plan} {v : V} {sh : Shelf} {kvs : List (Key × V)} (hv : R p v) (h : Rel2 R sh kvs) : Rel2 R (putSh sh A p) (putK kvs (Sum.inr A : Key) v) := by
  unfold putSh putK
  rw [h.any]
  split
  · exact h.mapPut hv
  · exact rel_app (.cons hv .nil) h
/-- at d: a dict of numbers | of plans' tuples -/
def NDic (H : Hp) (d : Addr) (sh : Shelf) : Prop := ∃ kvs, H d = some (.dK kvs) ∧ Rel2 (fun p v => ∃ a, v = .ref a ∧ NumAt H a p) sh kvs
theorem NDic.on {H H' : Hp} {d : Addr} {sh : Shelf} (S : Same H H') (h : NDic H d sh) : NDic H' d sh := by
  obtain ⟨kvs, hd, r⟩ := h
  exact ⟨kvs, S _ _ hd, r.imp fun p v ⟨a, e, n⟩ => ⟨a, e, n.on S⟩⟩
theorem NDic.get {H : Hp} {d : Addr} {sh : Shelf} (h : NDic H d sh) (A : Str) : (look sh A = none ∧ DGet H d (.str A) none) ∨ ∃ p a, look sh A = some p ∧ DGet H d (.str A) (some (.ref a)) ∧ NumAt H a p := by
  obtain ⟨kvs, hd, r⟩ := h
  have g : DGet H d (kV (Sum.inr A)) (valV kvs (Sum.inr A : Key)) := DGet.k hd
  rcases r.look (A := A) with ⟨h1, h2⟩ | ⟨p, v, h1, h2, a, rfl, hn⟩
  · left
    rw [h2] at g
    exact ⟨h1, g⟩
  · right
    rw [h2] at g
    exact ⟨p, a, h1, g, hn⟩
def ShOk (sh : Shelf) : Prop := ∀ q ∈ sh, PlanOk q.2
theorem ShOk.look {sh : Shelf} (h : ShOk sh) {A : Str} {p : Plan} (e : look sh A = some p) : PlanOk p := h _ (look_mem e)
/-- whether a wish holds -/
def holdsW (sh : Shelf) : Wi → Bool
  | .spl b A n => match look sh A with
    | none => false
    | some p => p.splits n == b
  | .alw A => match look sh A with
    | none => false
    | some p => p.always
  | .alike A B => match look sh A, look sh B with
    | some p, some q => decide (p.kind = q.kind)
    | _, _ => false
/-! kinds compared -/
theorem eqvAll_ints : ∀ l m : List Int, PyData.eqvAll (l.map PyData.int) (m.map PyData.int) = decide (l = m)
  | [], [] => by simp [PyData.eqvAll]
  | [], _ :: _ => by simp [PyData.eqvAll]
  | _ :: _, [] => by simp [PyData.eqvAll]
  | a :: l, b :: m => by
    show (PyData.eqv (.int a) (.int b) && PyData.eqvAll (l.map PyData.int) (m.map PyData.int)) = _
    rw [eqvAll_ints l m]
    show ((a == b) && _) = _
    by_cases h1 : a = b <;> by_cases h2 : l = m <;> simp [h1, h2]
def primD (o : Option (List Int)) : PyData := match o with
  | none => .str "all"
  | some l => .tuple (l.map .int)
theorem kindD_eq (p : Plan) : kindD p = .tuple [.int p.kind.1, primD p.kind.2.1, .bool p.kind.2.2] := by
  unfold kindD Plan.kind
  by_cases h : p.g = 0
  · rw [if_pos h, if_pos h]; rfl
  · rw [if_neg h, if_neg h]; rfl
theorem prim_eqv (a b : Option (List Int)) : PyData.eqv (primD a) (primD b) = decide (a = b) := by
  cases a with
  | none =>
    cases b with
    | none => simp [primD, PyData.eqv]
    | some m => simp [primD, PyData.eqv]
  | some l =>
    cases b with
    | none => simp [primD, PyData.eqv]
    | some m =>
      show PyData.eqvAll (l.map PyData.int) (m.map PyData.int) = _
      rw [eqvAll_ints]
      simp
theorem kind_eqv (p q : Plan) : PyData.eqv (kindD p) (kindD q) = decide (p.kind = q.kind) := by
  rw [kindD_eq, kindD_eq]
  generalize p.kind = x
  generalize q.kind = y
  obtain ⟨s, l, f⟩ := x
  obtain ⟨s', l', f'⟩ := y
  show ((s == s') && (PyData.eqv (primD l) (primD l') && ((f == f') && true))) = _
  rw [prim_eqv]
  by_cases h1 : s = s' <;> by_cases h2 : l = l' <;> by_cases h3 : f = f' <;> simp [h1, h2, h3]
theorem ints_lay : ∀ l : List Int, PyData.canLayAll0 (l.map PyData.int) = true ∧ PyData.depthAll (l.map PyData.int) = 0
  | [] => ⟨by simp [PyData.canLayAll0], by simp [PyData.depthAll]⟩
  | i :: l => by
    obtain ⟨h1, h2⟩ := ints_lay l
    exact ⟨by simp [PyData.canLayAll0, PyData.canLay0, h1], by simp [PyData.depthAll, PyData.depth, h2]⟩
theorem kind_shaped (p : Plan) : SeqAt.shaped (kindD p) = true := by
  rw [kindD_eq]
  generalize p.kind = x
  obtain ⟨s, l, f⟩ := x
  cases l with
  | none =>
    simp [SeqAt.shaped, primD, PyData.canLay0, PyData.canLayAll0, PyData.depth, PyData.depthAll]
    decide +kernel
  | some l =>
    obtain ⟨h1, h2⟩ := ints_lay l
    simp [SeqAt.shaped, primD, PyData.canLay0, PyData.canLayAll0, PyData.depth, PyData.depthAll, h1, h2]
theorem p1030 : (10 : Nat) ^ 30 < 2 ^ 100 := by decide
abbrev s_holds : Stmt := top 54
theorem sc_holds : FnScope ["wish", "numbers", "name", "number"] ["wish", "numbers"] (defScope s_holds) := ⟨rfl, rfl, rfl, by decide +kernel, rfl, by decide +kernel, by decide +kernel⟩
abbrev N_holds : List Str := ["wish", "numbers", "name", "number"]
def spHolds : Sp := fun vs H Q _ => ∃ x d w sh, vs = [.ref x, .ref d] ∧ WiAt H x w ∧ WiOk w ∧ NDic H d sh ∧ ShOk sh ∧ ∀ H', Same H H' → Q (.bl (holdsW sh w)) H'
section
variable {P : Program} {w : World} {K : PySem.W.Frag} {mg : Str → Option Value} {base : Heap}
theorem d_holds (F : At K mg "holds" s_holds) (B : Blt mg) (D_names_in : Dn P w K mg base CX0 1 "names_in" ["wish"] spNamesIn) (D_is_always : Dn P w K mg base CX0 8 "is_always" ["number"] spAlways) (D_kind_of : Dn P w K mg base CX0 9 "kind_of" ["number"] (spKind K)) (D_does_split : Dn P w K mg base CX0 9 "does_split" ["number", "n"] spSplit) :
    Dn P w K mg base CX0 10 "holds" ["wish", "numbers"] spHolds := by
  refine F.ok sc_holds (fun vs H Q E h => ?_) (fun _ _ _ _ _ _ us hl => match us, hl with | [_, _], _ => rfl) (fun f cdv A outer s H vs Q E hr h => ?_)
  · obtain ⟨_, _, _, _, rfl, _⟩ := h
    rfl
  obtain ⟨x, d, wi, sh, rfl, hx, hw, hd, hs, k⟩ := h
  refine ⟨_, (pss_cons (ps_if (pt_not (pt_val (pe_callB (cr_all rfl) (by rfl) B.all (by decide +kernel) (pa_cons (pe_lc (own := [("name", 2)]) (g := gName 2) rfl sc_holds.nd (pi_tup (pe_fn D_names_in hr (by decide) rfl (pa_cons (pv 0) pa_nil))) (blkOk_by (own := [("name", 2)]) (N := N_holds) (sc := defScope s_holds) (by decide +kernel)) (fun _ _ _ _ _ => pg_name (i := 2) sc_holds.nd rfl (Or.inl rfl)) (fun _ _ _ _ _ => pts_nil) (fun _ _ _ _ _ => (pe_and (pe_callB (id := "isinstance") (r := rIsi K) call_isi (by rfl) B.isinstance (by decide +kernel) (pa_cons (pv 2) (pa_cons (pe_bltn (v := .ty "str") (by rfl) B.str (by decide +kernel) rfl) pa_nil))) (pe_one (pe_cmp (pc_din (hu_of hr) (pv 2) (pv 1))))))) pa_nil)))) (pss_one (ps_ret pe_bl)) pss_nil)
  (pss_cons (ps_set (i := 3) sc_holds.nd rfl (.inl rfl) (pe_dget (by exact hu_of hr) (pv 1) (pe_ix (r := rIxT K) ix_tup (pv 0) pe_int (fun _ _ => rfl)) (fun _ _ => rfl)))
  (pss_cons (ps_if (pt_cmpR op_eq (pe_ix (r := rIxT K) ix_tup (pv 0) pe_int (fun _ _ => rfl)) pe_str (nomark _)) (pss_one (ps_ret (pe_fn D_is_always hr (by decide) rfl (pa_cons (pv 3) pa_nil)))) pss_nil)
  (pss_cons (ps_if (pt_cmpR op_eq (pe_ix (r := rIxT K) ix_tup (pv 0) pe_int (fun _ _ => rfl)) pe_str (nomark _)) (pss_one (ps_ret (pe_cmpR (op_eqD hr.units) (pe_fn D_kind_of hr (by decide) rfl (pa_cons (pv 3) pa_nil)) (pe_fn D_kind_of hr (by decide) rfl (pa_cons (pe_dget (by exact hu_of hr) (pv 1) (pe_ix (r := rIxT K) ix_tup (pv 0) pe_int (fun _ _ => rfl)) (fun _ _ => rfl)) pa_nil)) (nomark _)))) pss_nil)
  (pss_one (ps_ret (pe_cmpR op_eq (pe_fn D_does_split hr (by decide) rfl (pa_cons (pv 3) (pa_cons (pe_ix (r := rIxT K) ix_tup (pv 0) pe_int (fun _ _ => rfl)) pa_nil))) (pe_cmpR op_eq (pe_ix (r := rIxT K) ix_tup (pv 0) pe_int (fun _ _ => rfl)) pe_str (nomark _)) (nomark _)))))))), ?_⟩
  refine ⟨_, rfl, x, wi, rfl, hx, fun p H1 S1 hp => ⟨p, rfl, ⟨_, SqT.of hp⟩, fun D hD => ?_⟩⟩
  refine lc_go (J := Itt K p) (n := (wi.names.map V.str).length) (j := 2) (Src.tup (SqT.of hp)) hD (by rw [List.length_map]; cases wi <;> simp [Wi.names]) (fun _ => rfl) (fun i ys G => ys = ((wi.names.take i).map fun A => V.bl (look sh A).isSome)) rfl (fun _ _ _ _ _ h => h) ?_ ?_
  · rintro i y ys H2 hi hy _ S2 hys I Qe Qn ke kn
    rw [List.getElem?_map] at hy
    obtain ⟨A, hA, rfl⟩ : ∃ A, wi.names[i]? = some A ∧ y = V.str A := by
      cases e : wi.names[i]? with
      | none => rw [e] at hy; cases hy
      | some z => rw [e] at hy; exact ⟨z, rfl, (Option.some.inj hy).symm⟩
    have fin : ∀ b, b = (look sh A).isSome → Qe (V.bl b) H2 := fun b hb => ke _ _ (Same.refl _) (by rw [List.take_succ, hA, List.map_append, I, hb]; rfl)
    refine iteT (B := Qn H2) ⟨_, rfl, _, _, _, _, true, rfl, .ty _, .base (.str _), kit_ty (by decide +kernel), _, rfl, iteT ⟨_, rfl, _, rfl, d, ?_⟩⟩
    rcases (hd.on (S1.trans S2)).get A with ⟨h1, h2⟩ | ⟨q, a, h1, h2, _⟩
    · exact ⟨none, rfl, h2, fin _ (by rw [h1]; rfl)⟩
    · exact ⟨_, rfl, h2, fin _ (by rw [h1]; rfl)⟩
  · intro ys H2 S2 hys _ I
    have eys : ys = (wi.names.map fun A => (look sh A).isSome).map V.bl := by
      rw [I, List.length_map, List.take_length, List.map_map]
      rfl
    refine ⟨D, wi.names.map fun A => (look sh A).isSome, rfl, SqL.of (by rw [hys, eys]), _, rfl, ?_⟩
    have S := S1.trans S2
    have hx2 := S _ _ hx
    have hd2 := hd.on S
    -- if one lacks, False; else the numbers
    cases wi with
    | spl b A n =>
      obtain ⟨_, n1, n2⟩ := hw
      rcases hd2.get A with ⟨h1, h2⟩ | ⟨q, a, h1, h2, hn⟩
      · have e : (List.map (fun A => (look sh A).isSome) (Wi.spl b A n).names).all id = false := by
          show ((look sh A).isSome && true) = false
          rw [h1]; rfl
        rw [e]
        have ev : holdsW sh (.spl b A n) = false := by simp only [holdsW, h1]
        rw [ev] at k
        exact iteT (k _ S)
      · have e : (List.map (fun A => (look sh A).isSome) (Wi.spl b A n).names).all id = true := by
          show ((look sh A).isSome && true) = true
          rw [h1]; rfl
        rw [e]
        have ev : holdsW sh (.spl b A n) = (q.splits n == b) := by simp only [holdsW, h1]
        rw [ev] at k
        refine iteF ⟨_, rfl, _, rfl, x, _, 1, _, rfl, rfl, SqT.of hx2, rfl, d, _, rfl, h2, ?_⟩
        refine ⟨_, rfl, x, _, 0, _, rfl, rfl, SqT.of hx2, rfl, rfl, _, rfl, ?_⟩
        rw [show decide (V.str (if b = true then "splits" else "whole") = V.str "always") = false by cases b <;> decide +kernel]
        refine iteF ⟨_, rfl, x, _, 0, _, rfl, rfl, SqT.of hx2, rfl, rfl, _, rfl, ?_⟩
        rw [show decide (V.str (if b = true then "splits" else "whole") = V.str "alike") = false by cases b <;> decide +kernel]
        refine iteF ⟨_, rfl, _, rfl, x, _, 2, _, rfl, rfl, SqT.of hx2, rfl, a, q, n, rfl, hn, hs.look h1, n1, Nat.lt_of_le_of_lt n2 p1030, fun H3 S3 => ?_⟩
        refine ⟨_, rfl, x, _, 0, _, rfl, rfl, SqT.of (S3 _ _ hx2), rfl, rfl, rfl, ?_⟩
        rw [show decide (V.str (if b = true then "splits" else "whole") = V.str "splits") = b by cases b <;> decide +kernel]
        have e3 : decide (V.bl (q.splits n) = V.bl b) = (q.splits n == b) := dec_bl
        rw [e3]
        exact k _ (S.trans S3)
    | alw A =>
      rcases hd2.get A with ⟨h1, h2⟩ | ⟨q, a, h1, h2, hn⟩
      · have e : (List.map (fun A => (look sh A).isSome) (Wi.alw A).names).all id = false := by
          show ((look sh A).isSome && true) = false
          rw [h1]; rfl
        rw [e]
        have ev : holdsW sh (.alw A) = false := by simp only [holdsW, h1]
        rw [ev] at k
        exact iteT (k _ S)
      · have e : (List.map (fun A => (look sh A).isSome) (Wi.alw A).names).all id = true := by
          show ((look sh A).isSome && true) = true
          rw [h1]; rfl
        rw [e]
        have ev : holdsW sh (.alw A) = q.always := by simp only [holdsW, h1]
        rw [ev] at k
        refine iteF ⟨_, rfl, _, rfl, x, _, 1, _, rfl, rfl, SqT.of hx2, rfl, d, _, rfl, h2, ?_⟩
        refine ⟨_, rfl, x, _, 0, _, rfl, rfl, SqT.of hx2, rfl, rfl, _, rfl, ?_⟩
        rw [show decide (V.str "always" = V.str "always") = true by decide +kernel]
        exact iteT ⟨_, rfl, a, q, rfl, hn, hs.look h1, fun H3 S3 => k _ (S.trans S3)⟩
    | alike A B' =>
      have shape : ∀ (R : Bool → Prop), (∀ (h : look sh A = none ∨ look sh B' = none), R false) → (∀ (h : (look sh A).isSome = true ∧ (look sh B').isSome = true), R true) → R ((List.map (fun A => (look sh A).isSome) (Wi.alike A B').names).all id) := by
        intro R h1 h2
        show R ((look sh A).isSome && ((look sh B').isSome && true))
        cases e1 : look sh A with
        | none => exact h1 (.inl e1)
        | some p =>
          cases e2 : look sh B' with
          | none => exact h1 (.inr e2)
          | some q => exact h2 ⟨by rw [e1]; rfl, by rw [e2]; rfl⟩
      refine shape (fun r => if (!r) = true then _ else _) (fun h => ?_) (fun h => ?_)
      · have ev : holdsW sh (.alike A B') = false := by
          rcases h with h | h
          · simp only [holdsW, h]
          · simp only [holdsW, h]
            cases look sh A <;> rfl
        rw [ev] at k
        exact iteT (k _ S)
      · rcases hd2.get A with ⟨h1, h2⟩ | ⟨q, a, h1, h2, hn⟩
        · rw [h1] at h; exact absurd h.1 (by decide)
        rcases hd2.get B' with ⟨g1, g2⟩ | ⟨q', a', g1, g2, hn'⟩
        · rw [g1] at h; exact absurd h.2 (by decide)
        have ev : holdsW sh (.alike A B') = decide (q.kind = q'.kind) := by simp only [holdsW, h1, g1]
        rw [ev] at k
        refine iteF ⟨_, rfl, _, rfl, x, _, 1, _, rfl, rfl, SqT.of hx2, rfl, d, _, rfl, h2, ?_⟩
        refine ⟨_, rfl, x, _, 0, _, rfl, rfl, SqT.of hx2, rfl, rfl, _, rfl, ?_⟩
        rw [show decide (V.str "alike" = V.str "always") = false by decide +kernel]
        refine iteF ⟨_, rfl, x, _, 0, _, rfl, rfl, SqT.of hx2, rfl, rfl, _, rfl, ?_⟩
        rw [show decide (V.str "alike" = V.str "alike") = true by decide +kernel]
        refine iteT ⟨_, rfl, a, q, rfl, hn, hs.look h1, fun v H3 S3 hv => ?_⟩
        have hd3 := hd2.on S3
        rcases hd3.get B' with ⟨g1', _⟩ | ⟨q2, a2, g1', g2', hn2⟩
        · rw [g1] at g1'; cases g1'
        rw [g1] at g1'
        cases g1'
        refine ⟨_, rfl, _, rfl, x, _, 2, _, rfl, rfl, SqT.of (S3 _ _ hx2), rfl, d, _, rfl, g2', a2, q', rfl, hn2, hs.look g1, fun v' H4 S4 hv' => ?_⟩
        refine ⟨_, _, dp_on S4 hv, hv', kind_shaped q, kind_shaped q', ?_⟩
        rw [kind_eqv]
        exact k _ (S.trans (S3.trans S4))
end
end Pp
-- C1
/-! own error classes over ValueError, LookupError, ArithmeticError whose __init__ stores its one parameter under its own name (the worked proof 42 turned: any base, either field) -/
namespace Pp
namespace Er
open PySem PySem.W PySem.Calls PyProof.Rows PySem.HandSPX Builtin Builtin.ObjectAttr
def eA (fl : Str) (p1 p2 : Pos) : Arguments := { posonlyargs := [], args := [{ arg := "self", annotation := none, pos := p1 }, { arg := fl, annotation := none, pos := p2 }], vararg := none, kwonlyargs := [], kw_defaults := [], kwarg := none, defaults := [] }
def eB (fl : Str) (q1 q2 q3 q4 : Pos) : List Stmt := [.Assign [.Attribute (.Name "self" q1) fl q2] (.Name fl q3) q4]
def eS (fl : Str) : Scope := { kind := .function, names := [(PySem.Str.ofString "self", .local), (fl, .local)], isGenerator := false, isCoroutine := false, more := [] }
/-- a base: its facts -/
structure Bs (B newId initId : String) (bmB : List Value) : Prop where
  F : ExcBaseFacts B newId initId bmB
  S : StoreFacts B bmB "object.__setattr__" "object"
/-- what the written part says of the class x at C, its __init__ at fI -/
structure ErT (K : Frag) (mg : Str → Option Value) (x fl qual : Str) (C fI : Addr) : Prop where
  fld : fl = "given" ∨ fl = "index"
  gC : mg x = some (.ref C)
  base : ∃ B newId initId bmB, Bs B newId initId bmB ∧ excInitIn K C bmB newId = true ∧ excOver K C bmB = true
  sa : findIn K (.ref C) "__setattr__" = some (some (.builtin "object.__setattr__"))
  ga : findIn K (.ref C) "__getattribute__" = some (some (.builtin "BaseException.__getattribute__"))
  gg : findIn K (.ref C) "__getattr__" = some none
  noN : findIn K (.ref C) fl = some none
  iC : findIn K (.ref C) "__init__" = some (some (.ref fI))
  tC : typeIn K (.ref fI) = some (.type "function")
  kC : keepIn K (.ref C) = true
  exC : subIn K (.ref C) (.type "BaseException") = some true
  tyC : typeIn K (.ref C) = some (.type "type")
  hdC : hasDictIn K C = true
  fn : ∃ (oc : Value) (od : Option Addr) (doc pm : Value) (an : Option Addr) (cdv ct : Value) (osl : Array (Option Value)) (p1 p2 q1 q2 q3 q4 : Pos),
    K.lookup fI = some ⟨oc, od, .func (fnOf "__init__" qual (eA fl p1 p2) (eB fl q1 q2 q3 q4) (eS fl) .none .none doc pm an cdv ct), osl⟩ ∧ codeIn K cdv qual = true
theorem taker_none {K : Frag} {C : Addr} {f : Str} (n : findIn K (.ref C) f = some none) : takerIn K C f = some none := L2.NoAttr.taker n
section
variable {prog : Program} {w : World} {A : Around} {E : Value → Shared → Prop} {R : Result → Shared → Prop} {hp : Heap} {g : Array GenState} {d : Drawn} {t : Nat} {os : OsState}
/-- the first field of a new error: its dict is made -/
theorem first_store {K : Frag} {name : Str} {tk : Tok} {v : Value} {x C t0 : Addr} {B : String} {bmB : List Value} (SF : StoreFacts B bmB "object.__setattr__" "object")
    (X : K.In hp) (hx : hp.get? x = some (excO C t0)) (hp2 : excOver K C bmB = true) (hh : hasDictIn K C = true) (ha : findIn K (.ref C) name = some none)
    (hq : ∀ h' tk' dx, (∀ b o, b ≠ x → hp.get? b = some o → h'.get? b = some o) → hp.objs.size ≤ dx → dx ≠ x → h'.get? x = some { cls := .ref C, dict := some dx, data := .fields #[.ref t0, .none, .none, .none, .bool false, .none] } →
      h'.Ns1 dx (fun y => if y = name then some v else none) → R (.ok (.ret .none)) ⟨h', g, d, tk', os⟩) :
    codeAny (model prog w) A (.call (.builtin "object.__setattr__") ⟨[.ref x, .str name tk, v], []⟩) R ⟨hp, g, d, t, os⟩ := by
  have I : InstAt hp x (excO C t0) C none := ⟨hx, rfl, rfl, trivial⟩
  have nx : x ≠ hp.objs.size := Nat.ne_of_lt (Heap.lt_size hx)
  obtain ⟨cd, hcd, hdct⟩ : ∃ cd, clsIn K C = some cd ∧ cd.hasDict = true := by
    unfold hasDictIn at hh
    cases q : clsIn K C with
    | none => rw [q] at hh; exact absurd hh (by decide)
    | some cd => rw [q] at hh; exact ⟨cd, rfl, hh⟩
  refine osa_openX (s := ⟨hp, g, d, t, os⟩) SF X I hp2 (taker_none ha) fun b => ?_
  show wpAny _ _ (storeInOwnDict (.ref x) (.ref C) (.str name tk) name v b) _ _ _
  unfold storeInOwnDict ownDictForStores
  repeat (first | with_reducible refine store_in_new ?_ ?_ | with_reducible refine instanceDict_exc (cd := cd) (t := t0) (c2 := Value.none) (C := C) hx (looks_clsIn X hcd) hdct ?_ | wp_step)
  · exact ⟨_, #[], _, (Heap.get?_update_ne _ _ _ _ nx.symm).trans (Heap.get?_push_at rfl rfl), rfl, fun e he => absurd he (by simp), fun _ => rfl⟩
  · intro h' tk' hn' hs
    refine hq h' tk' hp.objs.size (fun b o hb ho => ?_) (Nat.le_refl _) nx.symm ?_ hn'
    · exact (hs.2 b (Nat.ne_of_lt (Heap.lt_size ho))).trans ((Heap.get?_update_ne _ _ _ _ hb).trans (Heap.get?_push_of_some _ ho))
    · exact (hs.2 x nx).trans (Heap.get?_update_self _ (Heap.get?_push_of_some _ hx) rfl)
end
theorem one_size (v : Value) : [v].length ≤ sizeLine := by
  rw [sizeLine_eq]
  exact (by decide : 1 ≤ 16777216)
theorem ldC {M : Model} {s : Shared} {name : Str} {scope : Scope} {L a : Addr} {cd : Value} {m : Str → Option Value} {x : Str} {pos : Pos} {v : Value} {Q : Value → Shared → Prop} {A : Around} {E : Value → Shared → Prop} (hn : s.heap.Ns L m) (hv : m x = some v) (h : Q v s)
    (hk : scope.kind = .function := by rfl) (hl : (envOfC name scope L a cd).kindOf x = some .local := by rfl) (hd : (x == ("__debug__" : Str)) = false := by decide) :
    wpAny M A (eval (.Name x pos) (envOfC name scope L a cd)) Q E s := wpAny_Name (wpAny_loadName_local hk hl hn hv h) hd
/-- what __init__ leaves of a fresh error at x -/
structure InitEnd (h h' : Heap) (fl : Str) (x C dx t1 : Addr) (v : Value) : Prop where
  keep : ∀ b o, b ≠ x → h.get? b = some o → h'.get? b = some o
  obj : h'.get? x = some { cls := .ref C, dict := some dx, data := .fields #[.ref t1, .none, .none, .none, .bool false, .none] }
  dbig : h.objs.size ≤ dx
  dne : dx ≠ x
  ns : h'.Ns1 dx (fun y => if y = fl then some v else none)
/-- a made error -/
structure Made (h h' : Heap) (fl : Str) (e C d : Addr) (v : Value) : Prop where
  keep : ∀ b o, h.get? b = some o → h'.get? b = some o
  new : h.objs.size ≤ e
  obj : ∃ oe vs, h'.get? e = some oe ∧ oe.cls = .ref C ∧ oe.dict = some d ∧ oe.data = .fields vs ∧ vs[1]? = some .none ∧ vs[2]? = some .none
  dbig : h.objs.size ≤ d
  dne : d ≠ e
  ns : h'.Ns1 d (fun y => if y = fl then some v else none)
section
variable {prog : Program} {w : World} {A : Around} {E : Value → Shared → Prop} {R : Result → Shared → Prop} {s : Shared} {K : Frag} {mg : Str → Option Value} {cn fl qual : Str} {C fI : Addr}
theorem er_init (T : ErT K mg cn fl qual C fI) {x t0 : Addr} {v : Value} (X : K.In s.heap) (hlim : s.heap.NoLimit) (hx : s.heap.get? x = some (excO C t0)) (hroom : A.depth < recursionLimit)
    (hq : ∀ h' tk dx, InitEnd s.heap h' fl x C dx t0 v → R (.ok (.ret .none)) { s with heap := h', toks := tk }) :
    codeAny (model prog w) A (.call (.ref fI) ⟨[.ref x, v], []⟩) R s := by
  obtain ⟨oc, od, doc, pm, an, cdv, ct, osl, p1, p2, q1, q2, q3, q4, ho, hcd⟩ := T.fn
  obtain ⟨B, newId, initId, bmB, bs, hex, hov⟩ := T.base
  have noN := T.noN
  have sa := T.sa
  have hdC := T.hdC
  rcases T.fld with rfl | rfl
  all_goals
    refine Att.call_fn (binds := [("self", .ref x), (_, v)]) X hlim ho hcd hroom (BindsTo.of_eq (by first | rfl | with_unfolding_all rfl)) (by first | rfl | decide | with_unfolding_all rfl) (fun s₁ IC => ?_) rfl rfl rfl
    obtain ⟨h₁, tk₁, rfl⟩ := IC.toInCall.same
    have k : ∀ b o, s.heap.get? b = some o → h₁.get? b = some o := IC.toInCall.keep
    have hn := IC.toInCall.ns
    have hxL : s.heap.objs.size ≠ x := Nat.ne_of_gt (Heap.lt_size hx)
    have X₁ : K.In h₁ := X.keeps k
    have hx₁ := k _ _ hx
    show wpAny _ _ (execs _ _) _ _ _
    refine wpAny_execs_cons (plainObj_wpAny_Assign_Attribute ?_)
    refine ldC (v := v) hn (by first | rfl | with_unfolding_all rfl | kernel_rfl) (ldC (v := .ref x) hn (by first | rfl | with_unfolding_all rfl | kernel_rfl) ?_)
    refine set_plain X₁ (ox := excO C t0) (od := none) ⟨hx₁, rfl, rfl, trivial⟩ sa ?_
    refine first_store bs.S X₁ hx₁ hov hdC noN (fun h₃ tk₃ dx k₃ dn dne hx₃ hn₃ => ?_)
    show wpAny _ _ (execs _ _) _ _ _
    have z : s.heap.objs.size < h₁.objs.size := hn.lt
    exact wpAny_execs_nil (hq h₃ tk₃ dx ⟨fun b o hb e => k₃ b o hb (k b o e), hx₃, Nat.le_of_lt (Nat.lt_of_lt_of_le z dn), dne, hn₃⟩)
theorem er_made (T : ErT K mg cn fl qual C fI) {v : Value} (X : K.In s.heap) (hlim : s.heap.NoLimit) (hroom : A.depth + 1 < recursionLimit)
    (hq : ∀ h' tk e d, Made s.heap h' fl e C d v → R (.ok (.ret (.ref e))) { s with heap := h', toks := tk }) :
    codeAny (model prog w) A (.call (.ref C) ⟨[v], []⟩) R s := by
  obtain ⟨B, newId, initId, bmB, bs, hex, hov⟩ := T.base
  obtain ⟨hp, g, dr, tk, os⟩ := s
  obtain ⟨nm, N, qn, bS, bm, hdct, sn, sub, ab, col, dd, k0, k1, k2, k3, k5, hC, hT⟩ := excInit_of X hex
  have k : ∀ b o, hp.get? b = some o → ((hp.push (kdv_tup [v])).push (excO C hp.objs.size)).get? b = some o := fun b o e => Heap.get?_push_of_some _ (Heap.get?_push_of_some _ e)
  have hget : ((hp.push (kdv_tup [v])).push (excO C hp.objs.size)).get? (hp.objs.size + 1) = some (excO C hp.objs.size) := by heap_get
  refine call_own bs.F hT hC (looks_findIn X T.iC) (fun self => bind_fn X self T.tC) (one_size v) ?_
  refine er_init (s := ⟨(hp.push (kdv_tup [v])).push (excO C hp.objs.size), g, dr, tk, os⟩) T (X.keeps k) (hlim.keeps k) hget ?_ fun h' tk' dx ⟨k', hx, dn, dne, hns⟩ => ?_
  · show A.depth + 1 < recursionLimit
    exact hroom
  · have old : ∀ b o, hp.get? b = some o → h'.get? b = some o := fun b o e => k' b o (Nat.ne_of_lt (Nat.lt_succ_of_lt (Heap.lt_size e))) (k b o e)
    have z : hp.objs.size + 1 + 1 ≤ dx := by
      first
        | (simpa only [Heap.size_push] using dn)
        | exact dn
        | (have q := dn; rw [Heap.size_push, Heap.size_push] at q; exact q)
    exact ⟨rfl, hq h' tk' (hp.objs.size + 1) dx ⟨old, Nat.le_succ _, ⟨_, _, hx, rfl, rfl, rfl, rfl, rfl⟩, Nat.le_trans (Nat.le_trans (Nat.le_succ _) (Nat.le_succ _)) z, dne, hns⟩⟩
end
end Er
open PySem PySem.Spec PyProof.Rows L2
theorem relO_one {fl : Str} {v : V} {v' : Value} (r : RelV v v') (f : Str) : RelO (List.lookup f [(fl, v)]) (if f = fl then some v' else none) := by
  by_cases hw : f = fl
  · subst hw
    rw [if_pos rfl]
    have q : List.lookup f [(f, v)] = some v := by simp [List.lookup]
    rw [q]
    exact r
  · rw [if_neg hw]
    have qw : (f == fl) = false := by simpa using hw
    have q2 : List.lookup f [(fl, v)] = none := by simp [List.lookup, qw]
    rw [q2]
    trivial
section
variable {X : Cx} {cn fl qual : Str} {C fI : Addr}
/-- an error's making: C(e) -/
def tMkE (C : Addr) (fl : Str) (ta : TA) : L2.St → Hp → XK → Prop := fun σ H Q => ta σ H fun vs H1 => ∃ v, vs = [v] ∧ ∀ d, H1 d = none → Q (.ref C) (some d) (upd H1 d (.xd [(fl, v)]))
theorem pmk_er {a : Expr} {ta : TA} {p pos : Pos} {k : Nat} (T : Er.ErT X.K X.mg cn fl qual C fI) (hr : Room k X.A) (ha : PA X [a] ta) (hg : Gl X cn) (hdb : (cn == ("__debug__" : Str)) = false)
    (he : starEach (a :: []) X.env = (false, eval a X.env) :: starEach [] X.env := by rfl) (hpl : (backTo pos (starEach [] X.env)).any (·.1) = false := by rfl) :
    L2N.PMk X (.Call (.Name cn p) [a] [] pos) (tMkE C fl ta) := by
  intro pins s σ H Q I h
  refine wpAny_Call_Name_kw (ld_glob I hg T.gC ?_ hdb)
  refine PySem.W.callWith_K (h₀ := X.base) I.ok.mod.kin T.kC (thn (ha.run pos pins s σ H _ I h) fun us s1 hh => ?_) he hpl
  obtain ⟨vs, H1, I1, r1, v, ev, q1⟩ := hh
  subst ev
  refine ⟨I1.kIn, ?_⟩
  cases r1 with
  | cons rv rn =>
    rename_i v' us'
    cases rn
    show wpAny _ _ (call (.ref C) [v']) _ _ _
    have hlim := I1.nolimit
    obtain ⟨hp, g, dr, tk, os⟩ := s1
    refine wpAny_call (Er.er_made T I1.kIn hlim (by have := hr.dp; omega) fun h' tk' e d M => ?_)
    show L2N.MkP X pins σ Q (.ref e) ⟨h', g, dr, tk', os⟩
    obtain ⟨oe, fv, hoe, hc, hd, hdat, h1, h2⟩ := M.obj
    have hns := M.ns
    obtain ⟨G', g1, g2⟩ := restrict h' fun b => decide (b ≠ e)
    have gk : ∀ b, b ≠ e → G'.get? b = h'.get? b := fun b hb => g1 b (decide_eq_true hb)
    have ge : G'.get? e = none := g2 e (by simp)
    have old : ∀ b o, hp.get? b = some o → G'.get? b = some o := fun b o q => (gk b (Nat.ne_of_lt (Nat.lt_of_lt_of_le (Heap.lt_size q) M.new))).trans (M.keep b o q)
    have ob : ObjOk X.prog X.w (upd H1 d (.xd [(fl, v)])) G' d (.xd [(fl, v)]) :=
      ⟨_, hns.at (fun o q => (gk d M.dne).trans q), fun f => relO_one rv f⟩
    have J : Inv X pins σ (upd H1 d (.xd [(fl, v)])) ⟨G', g, dr, tk', os⟩ := I1.laid (t' := tk') old M.dbig ob
    refine ⟨e, oe, fv, ⟨G', g, dr, tk', os⟩, _, .ref C, some d, rfl, J, fun b o q => ?_, ge, hoe, ⟨hc, hd, fun vs' e' => by rw [hdat] at e'; cases e'; exact h2⟩, hdat, h1, ?_, rfl, I1.bare, raises_own T.exC T.tyC, q1 d (I1.hok.fresh M.dbig)⟩
    · by_cases hb : b = e
      · have q' : G'.get? b = some o := q
        rw [hb, ge] at q'; cases q'
      · exact (gk b hb).symm.trans q
    · rw [upd_ne (Ne.symm M.dne)]
      exact I1.hok.fresh M.new
/-- raise C(e) -/
def tRaiseE (C : Addr) (fl : Str) (W : WX) (ta : TA) : TS := fun _ σ H => tMkE C fl ta σ H fun cls d H' => W cls d σ H'
theorem ps_raiseE {a : Expr} {ta : TA} {W : WX} {p pos pos2 : Pos} {k : Nat} (hc : X.calm = true) (T : Er.ErT X.K X.mg cn fl qual C fI) (hr : Room k X.A) (tk : L2N.Takes X W) (ha : PA X [a] ta) (hg : Gl X cn) (hdb : (cn == ("__debug__" : Str)) = false := by decide)
    (he : starEach (a :: []) X.env = (false, eval a X.env) :: starEach [] X.env := by rfl) (hpl : (backTo pos (starEach [] X.env)).any (·.1) = false := by rfl) :
    PS X (.Raise (some (.Call (.Name cn p) [a] [] pos)) none pos2) (tRaiseE C fl W ta) := L2N.ps_raise hc tk (pmk_er T hr ha hg hdb he hpl)
/-- e.fl, e the error that the suite holds (at a; its class cls, its dict d) -/
def tByE (C : Addr) (fl : Str) (a : Addr) (cls : Value) (d : Option Addr) (te : TE) : TE := fun σ H Q => te σ H fun x H1 => x = .ref a ∧ cls = .ref C ∧ ∃ (dd : Addr) (v : V), d = some dd ∧ H1 dd = some (.xd [(fl, v)]) ∧ Q v H1
theorem bs_VE : Er.Bs "ValueError" "ValueError.__new__" "ValueError.__init__" [.type "ValueError", .type "Exception", .type "BaseException", .type "object"] := ⟨F.excBase_ValueError, F.store_ValueError⟩
theorem bs_LE : Er.Bs "LookupError" "LookupError.__new__" "LookupError.__init__" [.type "LookupError", .type "Exception", .type "BaseException", .type "object"] := ⟨F.excBase_LookupError, F.store_LookupError⟩
theorem bs_AE : Er.Bs "ArithmeticError" "ArithmeticError.__new__" "ArithmeticError.__init__" [.type "ArithmeticError", .type "Exception", .type "BaseException", .type "object"] := ⟨F.excBase_ArithmeticError, F.store_ArithmeticError⟩
end
end Pp
-- C2
namespace Pp
open PySem PySem.Spec PyProof.Rows L2
/-! methods of an own class -/
structure AtM (K : PySem.W.Frag) (C : Addr) (m qual : Str) (st : Stmt) : Prop where
  ex : ∃ f fd, Fun K m qual st f fd ∧ Meth K C m f ∧ PySem.W.fnIn K f = true
structure Mn (P : Program) (w : World) (K : PySem.W.Frag) (mg : Str → Option Value) (base : Heap) (cx : CXT) (k : Nat) (C : Addr) (m : Str) (ps : List Str) (sp : Sp) : Prop where
  ex : ∃ f fd, FnOk P w K mg base cx k f fd ps sp ∧ Meth K C m f ∧ PySem.W.fnIn K f = true ∧ Binds K fd ps []
section
variable {P : Program} {w : World} {K : PySem.W.Frag} {mg : Str → Option Value} {base : Heap}
theorem AtM.ok {C : Addr} {m qual : Str} {st : Stmt} {N ps : List Str} {k : Nat} {sp : Sp} (F : AtM K C m qual st) (S : FnScope N ps (defScope st)) (len : ∀ vs H Q E, sp vs H Q E → vs.length = ps.length)
    (hb : ∀ (kV doc pm : Value) (an : Option Addr) (cdv ct : Value) (us : List Value), us.length = ps.length → bindArgs (PySem.W.fnOf m qual (defArgs st) (defBody st) (defScope st) .none kV doc pm an cdv ct) ⟨us, []⟩ = pure (ps.zip us))
    (hbody : ∀ (f : Addr) (cdv : Value) (A : Around) (outer : List Env) (s : Shared) (H : Hp) (vs : List V) (Q : VK) (E : XK), Room k (A.deeper (envOfC qual (defScope st) s.heap.objs.size f cdv)) → sp vs H Q E →
      ∃ t, PSs (cxOf CX0 P w K mg base N qual (defScope st) f cdv A outer s H E).nox (defBody st) t ∧ t { nx := fun _ H' => Q .non H', rt := Q } (start N vs) H) : Mn P w K mg base CX0 (k + 1) C m ps sp := by
  obtain ⟨f, fd, F, hm, fi⟩ := F.ex
  exact ⟨f, fd, F.ok S len (hbody f), hm, fi, F.binds hb⟩
/-- a method that may let an error out -/
theorem AtM.okX {C : Addr} {m qual : Str} {st : Stmt} {N ps : List Str} {k : Nat} {sp : Sp} (F : AtM K C m qual st) (S : FnScope N ps (defScope st)) (len : ∀ vs H Q E, sp vs H Q E → vs.length = ps.length)
    (hb : ∀ (kV doc pm : Value) (an : Option Addr) (cdv ct : Value) (us : List Value), us.length = ps.length → bindArgs (PySem.W.fnOf m qual (defArgs st) (defBody st) (defScope st) .none kV doc pm an cdv ct) ⟨us, []⟩ = pure (ps.zip us))
    (hbody : ∀ (f : Addr) (cdv : Value) (A : Around) (outer : List Env) (s : Shared) (H : Hp) (vs : List V) (Q : VK) (E : XK), Room k (A.deeper (envOfC qual (defScope st) s.heap.objs.size f cdv)) → sp vs H Q E →
      ∃ t, PSs (cxOf (L2N.CX P w) P w K mg base N qual (defScope st) f cdv A outer s H E) (defBody st) t ∧ t { nx := fun _ H' => Q .non H', rt := Q } (start N vs) H) : Mn P w K mg base (L2N.CX P w) (k + 1) C m ps sp := by
  obtain ⟨f, fd, F, hm, fi⟩ := F.ex
  refine ⟨f, fd, ?_, hm, fi, F.binds hb⟩
  obtain ⟨oc, od, kV, doc, pm, an, cdv, ct, osl, rfl, lk, hcd⟩ := F.ex
  exact fn_of lk hcd S len fun A outer s H vs Q E hr hsp => hbody f cdv A outer s H vs Q E hr hsp
/-- a def of the top that may let an error out -/
theorem At.okX {x : Str} {st : Stmt} {N ps : List Str} {k : Nat} {sp : Sp} (F : At K mg x st) (S : FnScope N ps (defScope st)) (len : ∀ vs H Q E, sp vs H Q E → vs.length = ps.length)
    (hb : ∀ (kV doc pm : Value) (an : Option Addr) (cdv ct : Value) (us : List Value), us.length = ps.length → bindArgs (PySem.W.fnOf x x (defArgs st) (defBody st) (defScope st) .none kV doc pm an cdv ct) ⟨us, []⟩ = pure (ps.zip us))
    (hbody : ∀ (f : Addr) (cdv : Value) (A : Around) (outer : List Env) (s : Shared) (H : Hp) (vs : List V) (Q : VK) (E : XK), Room k (A.deeper (envOfC x (defScope st) s.heap.objs.size f cdv)) → sp vs H Q E →
      ∃ t, PSs (cxOf (L2N.CX P w) P w K mg base N x (defScope st) f cdv A outer s H E) (defBody st) t ∧ t { nx := fun _ H' => Q .non H', rt := Q } (start N vs) H) : Dn P w K mg base (L2N.CX P w) (k + 1) x ps sp := by
  obtain ⟨f, fd, F, hm⟩ := F.ex
  refine ⟨f, fd, ?_, hm, F.kp, F.binds hb⟩
  obtain ⟨oc, od, kV, doc, pm, an, cdv, ct, osl, rfl, lk, hcd⟩ := F.ex
  exact fn_of lk hcd S len fun A outer s H vs Q E hr hsp => hbody f cdv A outer s H vs Q E hr hsp
end
section
variable {X : Cx} {cx : CXT} {k j : Nat} {C : Addr} {m f x : Str} {ps : List Str} {sp : Sp} {E : XK} {p pos apos : Pos} {o e : Expr} {es : List Expr} {ta : TE} {t : TA}
theorem pe_mn {pl : Sem Bool} (D : Mn X.prog X.w X.K X.mg X.base cx k C m ps sp) (c : Cls X.K C) (hr : Room j X.A) (hk : k ≤ j) (hx : Passes cx X E) (he : PE X o ta) (ha : PA X (e :: es) t)
    (hst : starEach (e :: es) X.env = (false, eval e X.env) :: starEach es X.env := by rfl) (hpl : (backTo pos (starEach es X.env)).any (·.1) = false := by rfl)
    (ht : eval (.Call (.Attribute o m apos) (e :: es) [] pos) X.env = (do
      let ov ← eval o X.env
      standAt apos.atName
      let (f, first) ← holding [ov] (getMethod ov m pl)
      callWith pos f first (backTo pos (starEach (e :: es) X.env)) (backToKw pos (keywordEach [] X.env))) := by rfl) :
    PE X (.Call (.Attribute o m apos) (e :: es) [] pos) (tMeth C m sp [] E ta t) := by
  obtain ⟨f, fd, F, hm, _, b⟩ := D.ex
  exact pe_meth (pl := pl) he c hm F (hr.mono hk) b .nil hx ha hst hpl ht
theorem pe_mn0 {pl : Sem Bool} (D : Mn X.prog X.w X.K X.mg X.base cx k C m ps sp) (c : Cls X.K C) (hr : Room j X.A) (hk : k ≤ j) (hx : Passes cx X E) (he : PE X o ta)
    (ht : eval (.Call (.Attribute o m apos) [] [] pos) X.env = (do
      let ov ← eval o X.env
      standAt apos.atName
      let (f, first) ← holding [ov] (getMethod ov m pl)
      callWith pos f first (backTo pos (starEach [] X.env)) (backToKw pos (keywordEach [] X.env))) := by rfl) :
    PE X (.Call (.Attribute o m apos) [] [] pos) (tMeth C m sp [] E ta tNil) := by
  obtain ⟨f, fd, F, hm, _, b⟩ := D.ex
  exact pe_meth0 (pl := pl) he c hm F (hr.mono hk) b .nil hx ht
/-- a method run one C frame up -/
theorem run_in1 {pins : List (Addr × Obj)} {σ : L2.St} {H : Hp} {s : Shared} {Q : VK} {us : List Value} {vs : List V} {g : Addr} {fd : FuncData} (F : FnOk X.prog X.w X.K X.mg X.base cx k g fd ps sp) (hr : Room (k + 1) X.A) (hb : Binds X.K fd ps []) (hx : Passes cx X E)
    (I : Inv X pins σ H s) (r : Vals vs us) (h : sp vs H Q E) : wpAny (model X.prog X.w) X.A.in1 (call (.ref g) us) (EP X pins σ Q) X.xe s := by
  have hl : us.length = ps.length := by rw [← r.length]; exact F.len _ _ _ _ h
  have b := hb s us I.kIn (by rw [List.append_nil]; exact hl)
  rw [List.append_nil] at b
  refine wpAny_call (codeAny_mono (F.run X.A.in1 X.stack s H ⟨us, []⟩ us vs Q E hr.in1 I.env0.in1 b r h) fun r s' hq => ?_)
  cases r with
  | error e => exact hx pins σ H s e s' I hq
  | ok fl =>
    cases fl with
    | ret u => exact I.after hq
    | next => exact False.elim hq
    | brk => exact False.elim hq
    | cont => exact False.elim hq
theorem run_at {pins : List (Addr × Obj)} {σ : L2.St} {H : Hp} {s : Shared} {Q : VK} {us : List Value} {vs : List V} {g : Addr} {fd : FuncData} (F : FnOk X.prog X.w X.K X.mg X.base cx k g fd ps sp) (hr : Room k X.A) (hb : Binds X.K fd ps []) (hx : Passes cx X E)
    (I : Inv X pins σ H s) (r : Vals vs us) (h : sp vs H Q E) : wpAny (model X.prog X.w) X.A (call (.ref g) us) (EP X pins σ Q) X.xe s :=
  run_fn (dvs := []) (ds := []) F hr hb .nil hx I r (by rw [List.append_nil]; exact h)
theorem inst_at {pins : List (Addr × Obj)} {σ : L2.St} {H : Hp} {s : Shared} {a dx : Addr} {fs : List (Str × V)} (I : Inv X pins σ H s) (e : H a = some (.ins C dx fs)) : ∃ od, PySem.W.InstAt s.heap a (PySem.W.instObj C dx) C (some od) := by
  obtain ⟨mA, O, _⟩ := ins_get I.hok e
  obtain ⟨od, J, _⟩ := O.look
  exact ⟨od, J⟩
/-- x not in o, o of an own class with __contains__ -/
def rNotInO (C : Addr) (sp : Sp) : R2 := fun x y H Q => ∃ a dx fs, y = .ref a ∧ H a = some (.ins C dx fs) ∧ sp [.ref a, x] H (fun v H' => ∃ b, v = .bl b ∧ Q (.bl (!b)) H') E0
theorem op_notInO (D : Mn X.prog X.w X.K X.mg X.base CX0 k C "__contains__" ps sp) (hr : Room j X.A) (hk : k ≤ j) : OpR X (compareOp .NotIn) (rNotInO C sp) := by
  intro pins s σ H x y v u Q I rx ry h
  obtain ⟨a, dx, fs, rfl, e, q⟩ := h
  obtain rfl : u = Value.ref a := ry
  obtain ⟨g, fd, F, hm, _, b⟩ := D.ex
  obtain ⟨od, J⟩ := inst_at I e
  obtain ⟨m0, Fr0⟩ := I.fr
  refine PySem.W.notIn_K Fr0 I.ok.mod.kin J hm.at_ hm.fn (thn (run_at F (hr.mono hk) b pass0 I (.cons (show RelV (.ref a) (Value.ref a) from rfl) (.cons rx .nil)) q) fun r s1 ⟨v1, H1, I1, r1, b1, e1, q1⟩ => ?_)
  subst e1
  obtain rfl : r = Value.bool b1 := r1
  exact thn (tru_ok pins s1 σ H1 (.bl b1) (.bool b1) (fun b2 H2 => b2 = b1 ∧ H2 = H1) I1 rfl ⟨b1, rfl, rfl, rfl⟩) fun b3 s2 ⟨H2, I2, e3, e4⟩ => ⟨.bl (!b1), H1, by rw [← e4]; exact I2, by rw [e3]; rfl, q1⟩
/-- o[i], o of an own class with __getitem__ -/
def rGetO (C : Addr) (sp : Sp) (E : XK) : R2 := fun x y H Q => ∃ a dx fs, x = .ref a ∧ H a = some (.ins C dx fs) ∧ sp [.ref a, y] H Q E
def tGetO (C : Addr) (sp : Sp) (E : XK) (ta tb : TE) : TE := tOp (rGetO C sp E) ta tb
theorem pe_getO {a b : Expr} {tb : TE} (D : Mn X.prog X.w X.K X.mg X.base cx k C "__getitem__" ps sp) (hr : Room j X.A) (hk : k + 1 ≤ j) (hx : Passes cx X E) (ha : PE X a ta) (hb : PE X b tb)
    (hsl : ∀ ov iv, subscripted b true ov iv = runValue (.builtin "lifetime.subscript" ⟨[ov, iv], []⟩) := by intro _ _; rfl) : PE X (.Subscript a b pos) (tGetO C sp E ta tb) := by
  refine ⟨fun pins s σ H Q I h => ?_⟩
  refine Subscript_ (binT ha hb I h fun v u s2 x y H2 I2 rx ry q => ?_)
  obtain ⟨a1, dx, fs, rfl, e, q⟩ := q
  obtain rfl : v = Value.ref a1 := rx
  obtain ⟨g, fd, F, hm, fi, bd⟩ := D.ex
  obtain ⟨od, J⟩ := inst_at I2 e
  obtain ⟨m0, Fr0⟩ := I2.fr
  exact PySem.W.sub_K Fr0 I2.ok.mod.kin J hm.at_ fi hm.fn (run_in1 F (hr.mono hk) bd hx I2 (.cons (show RelV (.ref a1) (Value.ref a1) from rfl) (.cons ry .nil)) q) (hsl _ _)
/-- o[i] = v -/
def rSetO (C : Addr) (sp : Sp) (E : XK) : TSet := fun o i v H Q => ∃ a dx fs, o = .ref a ∧ H a = some (.ins C dx fs) ∧ sp [.ref a, i, v] H (fun _ H' => Q H') E
theorem set_own (D : Mn X.prog X.w X.K X.mg X.base cx k C "__setitem__" ps sp) (hq : PySem.W.noSeq X.K C = true) (hr : Room j X.A) (hk : k ≤ j) (hx : Passes cx X E) : PSet X (rSetO C sp E) := by
  intro pins s σ H o i v ov iv u Q I ro ri rv h
  obtain ⟨a, dx, fs, rfl, e, q⟩ := h
  obtain rfl : ov = Value.ref a := ro
  obtain ⟨g, fd, F, hm, fi, bd⟩ := D.ex
  obtain ⟨od, J⟩ := inst_at I e
  obtain ⟨m0, Fr0⟩ := I.fr
  exact PySem.W.ksp_setItem Fr0 I.ok.mod.kin J hq hm.at_ hm.fn (thn (run_at F (hr.mono hk) bd hx I (.cons (show RelV (.ref a) (Value.ref a) from rfl) (.cons ri (.cons rv .nil))) q) fun r s1 ⟨_, H1, I1, _, q1⟩ => ⟨H1, I1, q1⟩)
/-- len(o), o of an own class with __len__ -/
def rLenO (C : Addr) (sp : Sp) : List V → Hp → VK → Prop := fun xs H Q => ∃ a dx fs, xs = [.ref a] ∧ H a = some (.ins C dx fs) ∧ sp [.ref a] H (fun v H' => ∃ n : Int, v = .int n ∧ (0 ≤ n ∧ n < 2 ^ 63) ∧ Q (.int n) H') E0
theorem call_lenO (D : Mn X.prog X.w X.K X.mg X.base CX0 k C "__len__" ps sp) (hr : Room j X.A) (hk : k + 1 ≤ j) : CallR X (.builtin "len") (rLenO C sp) := by
  intro pins s σ H xs us Q I r h
  obtain ⟨a, dx, fs, rfl, e, q⟩ := h
  obtain ⟨u, rfl, r1⟩ := vals1 r
  obtain rfl : u = Value.ref a := r1
  obtain ⟨g, fd, F, hm, fi, bd⟩ := D.ex
  obtain ⟨od, J⟩ := inst_at I e
  obtain ⟨m0, Fr0⟩ := I.fr
  refine PySem.W.len_K Fr0 I.ok.mod.kin J hm.at_ hm.fn (thn (run_in1 F (hr.mono hk) bd pass0 I (.cons (show RelV (.ref a) (Value.ref a) from rfl) .nil) q) fun r s1 ⟨v1, H1, I1, r1, n, e1, hn, q1⟩ => ?_)
  subst e1
  obtain ⟨tk, rfl⟩ := (show ∃ t, r = Value.int n t from r1)
  exact ⟨hn, .int n, H1, I1.tok _, ⟨_, rfl⟩, q1⟩
/-- o.f = v as a target -/
def gAtt (K : PySem.W.Frag) (to : TE) (f : Str) : TG := fun v σ H Q => to σ H fun x H1 => ∃ a C dx fs, x = .ref a ∧ H1 a = some (.ins C dx fs) ∧ Cls K C ∧ NoAttr K C f ∧ fs.length < 1000 ∧ Q σ (upd H1 a (.ins C dx (putF f v fs)))
theorem pg_att (he : PE X o ta) : PG X (.Attribute o f pos) (gAtt X.K ta f) := by
  refine ⟨fun pins s σ H v u Q I r h => ?_⟩
  refine PySem.W.kas_attr (thn (he.run pins s σ H _ I h) fun ov s1 ⟨y, H1, I1, ry, a, C, dx, fs, ey, ea, c, n, l, q⟩ => ?_)
  subst ey
  obtain rfl : ov = Value.ref a := ry
  exact setattr_ok I1 ea c n l r fun s2 I2 => ⟨σ, _, I2, q⟩
end
end Pp
-- C3
/-! for i, x in enumerate(t), t a tuple -/
namespace Pp
namespace Enu
open PySem
open Sem (wp)
theorem new1 {v : Value} {o : Obj} {G : Heap → Prop} (B : Begins v o G) :
    Meets (Builtin.«enumerate.__new__» ⟨[.type "enumerate", v], []⟩) (fun _ R s => G s.heap ∧
      R (.ok (.ret (.ref (s.heap.push o).objs.size))) { s with heap := (s.heap.push o).push { cls := .type "enumerate", data := .fields #[.none, .bool false, .ref s.heap.objs.size, rawInt 0, .none, .none] } }) :=
  .of_wp fun prog w A R s h => by
    obtain ⟨hp, g, d, tk, os⟩ := s
    obtain ⟨h1, h⟩ := h
    have hsub := sub_enumerate
    have it1 : ∀ {A' : Around} {E : Value → Shared → Prop} {Q : Value → Shared → Prop}, Q (.ref hp.objs.size) ⟨hp.push o, g, d, tk, os⟩ → wpAny (model prog w) A' (pyIter v) Q E ⟨hp, g, d, tk, os⟩ :=
      fun q => B.iter prog w _ _ ⟨hp, g, d, tk, os⟩ _ h1 q
    wp_walk using it1
    refine wpAny_stack_any fun st => wpAny_pure ?_
    split
    · rename_i c _ _ _ _ _
      cases (c == Value.type "enumerate")
      · wp_walk using it1
        exact ⟨_, rfl, h⟩
      · wp_walk using it1
        exact ⟨_, rfl, h⟩
    · wp_walk using it1
      exact ⟨_, rfl, h⟩
theorem call1 {prog : Program} {w : World} {A : Around} {E : Value → Shared → Prop} {s : Shared} {v : Value} {o : Obj} {G : Heap → Prop} {Q : Value → Shared → Prop} (B : Begins v o G) (h1 : G s.heap)
    (h : ∀ h', IsEnum h' (s.heap.objs.size + 1) s.heap.objs.size 0 .none → h'.get? s.heap.objs.size = some o → h'.objs.size = s.heap.objs.size + 2 →
      (∀ b u, s.heap.get? b = some u → h'.get? b = some u) → Q (.ref (s.heap.objs.size + 1)) { s with heap := h' }) :
    wpAny (model prog w) A (call (.type "enumerate") [v]) Q E s := by
  refine callType_new F.called_enumerate (by decide) (F.typeCall_enumerate_1 _) (F.newCall_enumerate_1 _) (fun obj => F.args_object_init_2 obj _) F.entry_enumerate_new (new1 B) ⟨h1, ?_⟩
  have hz : (s.heap.push o).objs.size = s.heap.objs.size + 1 := Heap.size_push ..
  show _ ∧ _
  rw [hz]
  have he : IsEnum ((s.heap.push o).push { cls := .type "enumerate", data := .fields #[.none, .bool false, .ref s.heap.objs.size, rawInt 0, .none, .none] }) (s.heap.objs.size + 1) s.heap.objs.size 0 .none := by
    have := Heap.get?_push_size (s.heap.push o) (o := { cls := .type "enumerate", data := .fields #[.none, .bool false, .ref s.heap.objs.size, rawInt 0, .none, .none] }) rfl
    rw [hz] at this
    exact this
  exact ⟨⟨_, he, rfl⟩, h _ he (Heap.get?_push_of_some _ (Heap.get?_push_size _ B.free)) (by rw [Heap.size_push, hz]) fun b u x => Heap.get?_push_of_some _ (Heap.get?_push_of_some _ x)⟩
end Enu
open PySem PySem.Spec PyProof.Rows L2
/-- the tuple at a, each item in a new pair -/
def Iteu (K : PySem.W.Frag) (a : Addr) : It :=
  ⟨fun i H => ∃ (xs : List V) (x : V), SqT K H a xs ∧ xs[i]? = some x, fun i H v H' => ∃ T x, v = .ref T ∧ H T = none ∧ H' = upd H T (.tup [.int (i : Nat), x]) ∧ ∀ xs, SqT K H a xs → xs[i]? = some x, fun i H => ∃ xs : List V, SqT K H a xs ∧ xs.length = i⟩
theorem turn_enumT {P : Program} {w : World} {K : PySem.W.Frag} {elts : List Expr} {kk : Nat} {tpos : Pos} (a e it : Addr) :
    Turn P w K (.Tuple elts kk tpos) (Iteu K a) [e, it] e (fun i h => (∃ old, IsEnum h e it ((i : Nat) : Int) old) ∧ h.IsTupleIter it a i ∧ e ≠ it) where
  mem := by simp
  obj := fun i h st b hb => by
    obtain ⟨⟨old, he⟩, ⟨o, ho, hc, hd⟩, _⟩ := st
    rcases (by simpa using hb : b = e ∨ b = it) with z | z
    · rw [z]; exact ⟨_, he, fun v q => nomatch q⟩
    · rw [z]; exact ⟨o, ho, fun v q => by rw [hd] at q; cases q⟩
  keep := fun i h h' st k => let ⟨⟨old, he⟩, hi, hne⟩ := st; ⟨⟨old, k e (by simp) _ he⟩, hi.at fun o q => k it (by simp) o q, hne⟩
  item := by
    intro X hP hw hK hc i pins s σ H E I hf st hg
    subst hP hw hK
    obtain ⟨⟨old, he⟩, hit, hne⟩ := st
    obtain ⟨xs, x, hq, hx⟩ := hg
    obtain ⟨its, rv, p, hz⟩ := I.tuple hq
    obtain ⟨u, hu, ru⟩ := rv.get hx
    have hT : s.heap.IsTuple a its.toArray := p
    have ilt : i < its.toArray.size := by
      have := (List.getElem?_eq_some_iff.mp hu).1
      simpa using this
    have ait : a ≠ it := fun z => by
      obtain ⟨o1, g1, c1, n1, d1⟩ := hT
      obtain ⟨o2, g2, c2, d2⟩ := hit
      rw [z, g2] at g1
      cases g1
      rw [d2] at d1
      cases d1
    have ae : a ≠ e := fun z => by
      obtain ⟨o1, g1, c1, n1, d1⟩ := hT
      have g2 : s.heap.get? e = some _ := he
      rw [z, g2] at g1
      cases g1
      cases d1
    have hel : e < s.heap.objs.size := Heap.lt_size he
    have hil : it < s.heap.objs.size := by obtain ⟨_, q, _⟩ := hit; exact Heap.lt_size q
    refine wpAny_pyNext_enum_itemC (Draws.tuple (A := X.A.in1) (I.ok.hd hc) it a ait its.toArray) he ⟨hit, hT⟩ ilt hne (by simp [hne, Ne.symm ae]) fun y h' tk hy ho hst' hT' hsz hk => ?_
    have ey : y = u := by
      have : its.toArray[i]? = some u := by simpa using hu
      rw [this] at hy
      exact (Option.some.inj hy).symm
    subst ey
    refine ⟨_, rfl, wpAny_letOwnedTupleGo_enum (s := { s with heap := h', toks := tk + 1 }) ho fun h'' he' sb => ?_⟩
    have hT2 : h''.get? s.heap.objs.size = some { cls := .type "tuple", data := .seq #[.int i tk, y] } := (sb.2 _ (Nat.ne_of_gt hel)).trans hT'
    have new : ObjOk X.prog X.w (upd H s.heap.objs.size (.tup [.int (i : Nat), x])) h'' s.heap.objs.size (.tup [.int (i : Nat), x]) :=
      ⟨by show 2 ≤ sizeLine; decide, [.int i tk, y], .cons ⟨_, rfl⟩ (.cons ru .nil), ⟨_, hT2, rfl, _, rfl⟩⟩
    have I1 : Inv X pins σ (upd H s.heap.objs.size (.tup [.int (i : Nat), x])) { s with heap := h'', toks := tk + 1 } :=
      I.turnedNew (ch := [e, it]) (fun b ob hb q => (sb.2 b (fun z => hb (by simp [z]))).trans (hk b ob (fun z => hb (by simp [z])) (fun z => hb (by simp [z])) q)) hf (Nat.le_refl _) new
    refine ⟨.ref s.heap.objs.size, _, I1, rfl, ⟨_, x, rfl, I.hok.fresh (Nat.le_refl _), rfl, fun ys hy => by rw [I.tuple_inj hy hq]; exact hx⟩, ⟨⟨y, ?_⟩, hst'.1.at fun o q => (sb.2 it (Ne.symm hne)).trans q, hne⟩, fun b hb => ?_⟩
    · have e1 : ((i + 1 : Nat) : Int) = (i : Int) + 1 := by omega
      rw [e1]; exact he'
    · have hb' : b < s.heap.objs.size := by
        rcases (by simpa using hb : b = e ∨ b = it) with z | z
        · rw [z]; exact hel
        · rw [z]; exact hil
      rw [upd_ne (Nat.ne_of_lt hb')]
      exact (hf b hb).1
  done := by
    intro X hP hw hK hc i pins s σ H E I hf st hg
    subst hP hw hK
    obtain ⟨⟨old, he⟩, hit, hne⟩ := st
    obtain ⟨xs, hq, hx⟩ := hg
    obtain ⟨its, rv, p, hz⟩ := I.tuple hq
    have hT : s.heap.IsTuple a its.toArray := p
    obtain ⟨f0, f1, f2, f3, f4, f5⟩ := hf it (by simp)
    have hl := rv.length
    have ait : a ≠ it := fun z => by
      obtain ⟨o1, g1, c1, n1, d1⟩ := hT
      obtain ⟨o2, g2, c2, d2⟩ := hit
      rw [z, g2] at g1
      cases g1
      rw [d2] at d1
      cases d1
    have ie : i = its.toArray.size := by rw [← hx, hl]; simp
    subst ie
    exact wpAny_pyNext_enum_endD (Draws.tuple (A := X.A.in1) (I.ok.hd hc) it a ait its.toArray) he ⟨hit, hT⟩ fun h' eb => ⟨rfl, I.turned (t' := s.toks) (fun b o hb q => eb b o hb q) f0 f1 f3 f4 f5⟩
  self := fun A i s Q E st h => let ⟨⟨_, he⟩, _⟩ := st; wpAny_pyIter_enum he h
def iEnuT (K : PySem.W.Frag) (ta : TA) : TI := fun σ H R => ta σ H fun vs H1 => ∃ a xs, vs = [.ref a] ∧ SqT K H1 a xs ∧ R (Iteu K a) H1
theorem pi_enumT {X : Cx} {e : Expr} {ta : TA} {p pos tpos : Pos} {elts : List Expr} {kk : Nat} (hg : Gl X "enumerate") (hm : X.mg "enumerate" = none) (ha : PA X [e] ta) (hs : starEach [e] X.env = [(false, eval e X.env)] := by rfl) :
    PI X (.Tuple elts kk tpos) (.Call (.Name "enumerate" p) [e] [] pos) (iEnuT X.K ta) := by
  refine ⟨fun pins s σ H R I h => ?_⟩
  refine Call_ (ld_blt I hg hm boot_enumerate (PyProof.Rows.callWith_type1 (thn (ha.run pos pins s σ H _ I h) fun us s1 ⟨vs, H1, I1, r1, q1⟩ => ?_) hs rfl))
  obtain ⟨a, xs, ex, hq, q⟩ := q1
  subst ex
  cases r1 with
  | cons r rr =>
    cases rr
    cases r
    obtain ⟨its, rv, p', hz⟩ := I1.tuple hq
    have hT : s1.heap.IsTuple a its.toArray := p'
    refine Enu.call1 (begins_tuple a its.toArray) hT fun h' he hit hsz hk => wpAny_pyIter_enum he ?_
    have I2 : Inv X pins σ H1 { s1 with heap := h' } := I1.kept (t' := s1.toks) hk
    refine ⟨s1.heap.objs.size + 1, [s1.heap.objs.size + 1, s1.heap.objs.size], _, _, H1, rfl, I2, turn_enumT a (s1.heap.objs.size + 1) s1.heap.objs.size, ⟨⟨.none, he⟩, ⟨_, hit, rfl, rfl⟩, Nat.succ_ne_self _⟩, fun b hb => ?_, q⟩
    have e' : b = s1.heap.objs.size + 1 ∨ b = s1.heap.objs.size := by simpa using hb
    have hle : s1.heap.objs.size ≤ b := by
      rcases e' with z | z
      · rw [z]; exact Nat.le_add_right _ _
      · rw [z]; exact Nat.le_refl _
    exact I1.fpOk hle (I1.hok.fresh hle)
end Pp
-- D1
namespace Pp
open PySem PySem.Spec PyProof.Rows L2
/-! two lists, item by item -/
inductive P2 {α β : Type} (R : α → β → Prop) : List α → List β → Prop where
  | nil : P2 R [] []
  | cons {a b l m} : R a b → P2 R l m → P2 R (a :: l) (b :: m)
namespace P2
variable {α β : Type} {R S : α → β → Prop}
theorem len : ∀ {l : List α} {m : List β}, P2 R l m → l.length = m.length
  | _, _, .nil => rfl
  | _, _, .cons _ t => congrArg (· + 1) t.len
theorem imp (f : ∀ a b, R a b → S a b) : ∀ {l : List α} {m : List β}, P2 R l m → P2 S l m
  | _, _, .nil => .nil
  | _, _, .cons h t => .cons (f _ _ h) (t.imp f)
theorem app {l2 : List α} {m2 : List β} : ∀ {l : List α} {m : List β}, P2 R l m → P2 R l2 m2 → P2 R (l ++ l2) (m ++ m2)
  | _, _, .nil, h2 => h2
  | _, _, .cons h t, h2 => .cons h (t.app h2)
theorem take : ∀ {l : List α} {m : List β} (n : Nat), P2 R l m → P2 R (l.take n) (m.take n)
  | _, _, 0, _ => .nil
  | _, _, _ + 1, .nil => .nil
  | _, _, n + 1, .cons h t => .cons h (t.take n)
theorem drop : ∀ {l : List α} {m : List β} (n : Nat), P2 R l m → P2 R (l.drop n) (m.drop n)
  | _, _, 0, h => h
  | _, _, _ + 1, .nil => .nil
  | _, _, n + 1, .cons h t => t.drop n
theorem get : ∀ {l : List α} {m : List β} {i : Nat} {b : β}, P2 R l m → m[i]? = some b → ∃ a, l[i]? = some a ∧ R a b
  | _, _, _, _, .nil, h => by simp at h
  | _, _, 0, _, .cons h t, e => by
    have := Option.some.inj e
    subst this
    exact ⟨_, rfl, h⟩
  | _, _, i + 1, _, .cons h t, e => t.get (i := i) e
theorem get1 : ∀ {l : List α} {m : List β} {i : Nat} {a : α}, P2 R l m → l[i]? = some a → ∃ b, m[i]? = some b ∧ R a b
  | _, _, _, _, .nil, h => by simp at h
  | _, _, 0, _, .cons h t, e => by
    have := Option.some.inj e
    subst this
    exact ⟨_, rfl, h⟩
  | _, _, i + 1, _, .cons h t, e => t.get1 (i := i) e
end P2
/-! a page: what a book tells -/
structure Page where
  sh : Shelf
  ws : List Wi
def WsAt (H : Hp) (md : Addr) (ws : List Wi) : Prop := ∃ as : List Addr, H md = some (.tup (as.map V.ref)) ∧ P2 (WiAt H) as ws
def PgAt (H : Hp) (nd md : Addr) (pg : Page) : Prop := NDic H nd pg.sh ∧ WsAt H md pg.ws
def PastAt (H : Hp) (pd : Addr) (past : List Page) : Prop := ∃ as : List Addr, H pd = some (.tup (as.map V.ref)) ∧ P2 (fun a pg => ∃ nd md, H a = some (.tup [.ref nd, .ref md]) ∧ PgAt H nd md pg) as past
def BookIs (C : Addr) (H : Hp) (b nd md pd : Addr) : Prop := ∃ dx, H b = some (.ins C dx [("numbers", .ref nd), ("made", .ref md), ("past", .ref pd)])
def BookAt (C : Addr) (H : Hp) (b : Addr) (pg : Page) (past : List Page) : Prop := ∃ nd md pd, BookIs C H b nd md pd ∧ PgAt H nd md pg ∧ PastAt H pd past
/-- tuples and dicts are as they were -/
structure TD (H H' : Hp) : Prop where
  t : ∀ a xs, H a = some (.tup xs) → H' a = some (.tup xs)
  d : ∀ a kvs, H a = some (.dK kvs) → H' a = some (.dK kvs)
theorem TD.of {H H' : Hp} (S : Same H H') : TD H H' := ⟨fun _ _ h => S _ _ h, fun _ _ h => S _ _ h⟩
theorem TD.refl (H : Hp) : TD H H := ⟨fun _ _ h => h, fun _ _ h => h⟩
theorem TD.trans {H H1 H2 : Hp} (a : TD H H1) (b : TD H1 H2) : TD H H2 := ⟨fun _ _ h => b.t _ _ (a.t _ _ h), fun _ _ h => b.d _ _ (a.d _ _ h)⟩
theorem TD.but {H H' : Hp} {b : Addr} (B : But b H H') (n1 : ∀ xs, H b ≠ some (.tup xs)) (n2 : ∀ kvs, H b ≠ some (.dK kvs)) : TD H H' :=
  ⟨fun a xs h => B a _ (fun z => n1 xs (by rw [← z]; exact h)) h, fun a xs h => B a _ (fun z => n2 xs (by rw [← z]; exact h)) h⟩
theorem TD.ins {H H' : Hp} {b C dx : Addr} {fs : List (Str × V)} (B : But b H H') (h : H b = some (.ins C dx fs)) : TD H H' :=
  TD.but B (fun xs z => by rw [h] at z; cases z) (fun xs z => by rw [h] at z; cases z)
theorem NumAt.td {H H' : Hp} (S : TD H H') {a : Addr} {p : Plan} (h : NumAt H a p) : NumAt H' a p := S.t _ _ h
theorem WiAt.td {H H' : Hp} (S : TD H H') {a : Addr} {w : Wi} (h : WiAt H a w) : WiAt H' a w := S.t _ _ h
theorem NDic.td {H H' : Hp} {d : Addr} {sh : Shelf} (S : TD H H') (h : NDic H d sh) : NDic H' d sh := by
  obtain ⟨kvs, hd, r⟩ := h
  exact ⟨kvs, S.d _ _ hd, r.imp fun p v ⟨a, e, n⟩ => ⟨a, e, n.td S⟩⟩
theorem WsAt.td {H H' : Hp} {md : Addr} {ws : List Wi} (S : TD H H') (h : WsAt H md ws) : WsAt H' md ws := by
  obtain ⟨as, e, r⟩ := h
  exact ⟨as, S.t _ _ e, r.imp fun a w n => n.td S⟩
theorem PgAt.td {H H' : Hp} {nd md : Addr} {pg : Page} (S : TD H H') (h : PgAt H nd md pg) : PgAt H' nd md pg := ⟨h.1.td S, h.2.td S⟩
theorem PastAt.td {H H' : Hp} {pd : Addr} {past : List Page} (S : TD H H') (h : PastAt H pd past) : PastAt H' pd past := by
  obtain ⟨as, e, r⟩ := h
  exact ⟨as, S.t _ _ e, r.imp fun a pg ⟨nd, md, h1, h2⟩ => ⟨nd, md, S.t _ _ h1, h2.td S⟩⟩
theorem BookAt.on {H H' : Hp} {C b : Addr} {pg : Page} {past : List Page} (S : Same H H') (h : BookAt C H b pg past) : BookAt C H' b pg past := by
  obtain ⟨nd, md, pd, ⟨dx, h1⟩, h2, h3⟩ := h
  exact ⟨nd, md, pd, ⟨dx, S _ _ h1⟩, h2.td (.of S), h3.td (.of S)⟩
/-- the class -/
structure BkT (K : PySem.W.Frag) (mg : Str → Option Value) (C : Addr) : Prop where
  gC : mg "Book" = some (.ref C)
  cls : Cls K C
  nN : NoAttr K C "numbers"
  nM : NoAttr K C "made"
  nP : NoAttr K C "past"
  ns : PySem.W.noSeq K C = true
  mo : PySem.W.mroIn K C (.type "object") = some true
  eq : PySem.W.findIn K (.ref C) "__eq__" = some (some (.builtin "object.__eq__"))
/-! errors -/
inductive Err where
  | unknown (A : Str)
  | inUse (i : Nat)
  | broken (i : Nat)
  | index (i : Nat)
  | deeds (i : Nat)
def Err.cls : Err → Str
  | .unknown _ => "UnknownName"
  | .inUse _ => "InUse"
  | .broken _ => "Broken"
  | .index _ => "InvalidIndex"
  | .deeds _ => "InvalidDeeds"
def Err.fld : Err → Str
  | .unknown _ => "given"
  | .inUse _ => "index"
  | .broken _ => "index"
  | .index _ => "given"
  | .deeds _ => "index"
def Err.val : Err → V
  | .unknown A => .str A
  | .inUse i => .int (i : Int)
  | .broken i => .int (i : Int)
  | .index i => .int (i : Int)
  | .deeds i => .int (i : Int)
def clsA (mg : Str → Option Value) (n : Str) : Addr := match mg n with
  | some (.ref C) => C
  | _ => 0
structure ErK (K : PySem.W.Frag) (mg : Str → Option Value) : Prop where
  at_ : ∀ e : Err, ∃ qual fI, Er.ErT K mg e.cls e.fld qual (clsA mg e.cls) fI
def ErrAt (mg : Str → Option Value) (H : Hp) (cls : Value) (d : Option Addr) (e : Err) : Prop := cls = .ref (clsA mg e.cls) ∧ ∃ dd, d = some dd ∧ H dd = some (.xd [(e.fld, e.val)])
/-- what an error leaves: all as it was, the error told -/
def Out (mg : Str → Option Value) (H : Hp) (E : XK) (e : Err) : Prop := ∀ cls d H', Same H H' → ErrAt mg H' cls d e → E cls d H'
theorem Out.on {mg : Str → Option Value} {H H' : Hp} {E : XK} {e : Err} (h : Out mg H E e) (S : Same H H') : Out mg H' E e := fun cls d H2 S2 he => h cls d H2 (S.trans S2) he
theorem Out.at {mg : Str → Option Value} {H H1 : Hp} {E : XK} {e : Err} {d : Addr} (h : Out mg H E e) (S : Same H H1) (hd : H1 d = none) : E (.ref (clsA mg e.cls)) (some d) (upd H1 d (.xd [(e.fld, e.val)])) :=
  h _ _ _ (S.trans (same_new hd)) ⟨rfl, d, rfl, upd_same⟩
abbrev s_Book___init__ : Stmt := inClass (top 55) 0
theorem sc_Book___init__ : FnScope ["self"] ["self"] (defScope s_Book___init__) := ⟨rfl, rfl, rfl, by decide +kernel, rfl, by decide +kernel, by decide +kernel⟩
abbrev N_Book___init__ : List Str := ["self"]
def spInit (C : Addr) : Sp := fun vs H Q _ => ∃ b dx, vs = [.ref b] ∧ H b = some (.ins C dx []) ∧ ∀ H', But b H H' → BookAt C H' b ⟨[], []⟩ [] → Q .non H'
abbrev s_Book_names : Stmt := inClass (top 55) 1
theorem sc_Book_names : FnScope ["self"] ["self"] (defScope s_Book_names) := ⟨rfl, rfl, rfl, by decide +kernel, rfl, by decide +kernel, by decide +kernel⟩
abbrev N_Book_names : List Str := ["self"]
def spNames (C : Addr) : Sp := fun vs H Q _ => ∃ b pg past, vs = [.ref b] ∧ BookAt C H b pg past ∧ pg.sh.length < 60 ∧ ∀ (ys : List Str) p H', ys.Perm (pg.sh.map (·.1)) → sortedS ys = true → Same H H' → H' p = some (.tup (ys.map V.str)) → Q (.ref p) H'
abbrev s_Book_wishes : Stmt := inClass (top 55) 2
theorem sc_Book_wishes : FnScope ["self"] ["self"] (defScope s_Book_wishes) := ⟨rfl, rfl, rfl, by decide +kernel, rfl, by decide +kernel, by decide +kernel⟩
abbrev N_Book_wishes : List Str := ["self"]
def spWishes (C : Addr) : Sp := fun vs H Q _ => ∃ b pg past, vs = [.ref b] ∧ BookAt C H b pg past ∧ ∀ md, WsAt H md pg.ws → Q (.ref md) H
abbrev s_Book_changes : Stmt := inClass (top 55) 3
theorem sc_Book_changes : FnScope ["self"] ["self"] (defScope s_Book_changes) := ⟨rfl, rfl, rfl, by decide +kernel, rfl, by decide +kernel, by decide +kernel⟩
abbrev N_Book_changes : List Str := ["self"]
def spChanges (C : Addr) : Sp := fun vs H Q _ => ∃ b pg past, vs = [.ref b] ∧ BookAt C H b pg past ∧ Q (.int (past.length : Int)) H
abbrev s_Book_become : Stmt := inClass (top 55) 4
theorem sc_Book_become : FnScope ["self", "numbers", "made"] ["self", "numbers", "made"] (defScope s_Book_become) := ⟨rfl, rfl, rfl, by decide +kernel, rfl, by decide +kernel, by decide +kernel⟩
abbrev N_Book_become : List Str := ["self", "numbers", "made"]
def spBecome (C : Addr) : Sp := fun vs H Q _ => ∃ b nd md pg past pg', vs = [.ref b, .ref nd, .ref md] ∧ BookAt C H b pg past ∧ PgAt H nd md pg' ∧ past.length < 10000 ∧ ∀ H', But b H H' → BookAt C H' b pg' (past ++ [pg]) → Q .non H'
abbrev s_Book___len__ : Stmt := inClass (top 55) 10
theorem sc_Book___len__ : FnScope ["self"] ["self"] (defScope s_Book___len__) := ⟨rfl, rfl, rfl, by decide +kernel, rfl, by decide +kernel, by decide +kernel⟩
abbrev N_Book___len__ : List Str := ["self"]
def spLen (C : Addr) : Sp := fun vs H Q _ => ∃ b pg past, vs = [.ref b] ∧ BookAt C H b pg past ∧ Q (.int (pg.sh.length : Int)) H
abbrev s_Book___contains__ : Stmt := inClass (top 55) 9
theorem sc_Book___contains__ : FnScope ["self", "name"] ["self", "name"] (defScope s_Book___contains__) := ⟨rfl, rfl, rfl, by decide +kernel, rfl, by decide +kernel, by decide +kernel⟩
abbrev N_Book___contains__ : List Str := ["self", "name"]
def spHas (C : Addr) : Sp := fun vs H Q _ => ∃ b A pg past, vs = [.ref b, .str A] ∧ BookAt C H b pg past ∧ Q (.bl (look pg.sh A).isSome) H
abbrev s_Book_check_known : Stmt := inClass (top 55) 5
theorem sc_Book_check_known : FnScope ["self", "name"] ["self", "name"] (defScope s_Book_check_known) := ⟨rfl, rfl, rfl, by decide +kernel, rfl, by decide +kernel, by decide +kernel⟩
abbrev N_Book_check_known : List Str := ["self", "name"]
def spKnown (C : Addr) (mg : Str → Option Value) : Sp := fun vs H Q E => ∃ b A pg past, vs = [.ref b, .str A] ∧ BookAt C H b pg past ∧ ((look pg.sh A).isSome = true → Q .non H) ∧ ((look pg.sh A).isSome = false → Out mg H E (.unknown A))
abbrev s_Book___getitem__ : Stmt := inClass (top 55) 7
theorem sc_Book___getitem__ : FnScope ["self", "name"] ["self", "name"] (defScope s_Book___getitem__) := ⟨rfl, rfl, rfl, by decide +kernel, rfl, by decide +kernel, by decide +kernel⟩
abbrev N_Book___getitem__ : List Str := ["self", "name"]
def spGet (C : Addr) (mg : Str → Option Value) : Sp := fun vs H Q E => ∃ b A pg past p, vs = [.ref b, .str A] ∧ BookAt C H b pg past ∧ look pg.sh A = some p ∧ ∀ a, NumAt H a p → Q (.ref a) H
section
variable {P : Program} {w : World} {K : PySem.W.Frag} {mg : Str → Option Value} {base : Heap} {C : Addr}
theorem lN {nd md pd : V} : List.lookup ("numbers" : Str) [(("numbers" : Str), nd), ("made", md), ("past", pd)] = some nd := by rfl
theorem lM {nd md pd : V} : List.lookup ("made" : Str) [(("numbers" : Str), nd), ("made", md), ("past", pd)] = some md := by rfl
theorem lP {nd md pd : V} : List.lookup ("past" : Str) [(("numbers" : Str), nd), ("made", md), ("past", pd)] = some pd := by rfl
theorem put2 {d m : V} : putF "made" m [(("numbers" : Str), d)] = ([("numbers", d), ("made", m)] : List (Str × V)) := by rfl
theorem put3 {d m q : V} : putF "past" q [(("numbers" : Str), d), ("made", m)] = ([("numbers", d), ("made", m), ("past", q)] : List (Str × V)) := by rfl
theorem putN {d m q x : V} : putF "numbers" x [(("numbers" : Str), d), ("made", m), ("past", q)] = ([("numbers", x), ("made", m), ("past", q)] : List (Str × V)) := by rfl
theorem putM {d m q x : V} : putF "made" x [(("numbers" : Str), d), ("made", m), ("past", q)] = ([("numbers", d), ("made", x), ("past", q)] : List (Str × V)) := by rfl
theorem putP {d m q x : V} : putF "past" x [(("numbers" : Str), d), ("made", m), ("past", q)] = ([("numbers", d), ("made", m), ("past", x)] : List (Str × V)) := by rfl
theorem d_init (F : AtM K C "__init__" "Book.__init__" s_Book___init__) (BK : BkT K mg C) : Mn P w K mg base CX0 1 C "__init__" ["self"] (spInit C) := by
  refine F.ok sc_Book___init__ (fun vs H Q E h => ?_) (fun _ _ _ _ _ _ us hl => match us, hl with | [_], _ => rfl) (fun f cdv A outer s H vs Q E hr h => ?_)
  · obtain ⟨_, _, rfl, _⟩ := h
    rfl
  obtain ⟨b, dx, rfl, hb, k⟩ := h
  refine ⟨_, (pss_cons (ps_fld (pv 0) pe_dnewK rfl)
  (pss_cons (ps_fld (pv 0) (pe_tup pa_nil) rfl)
  (pss_one (ps_fld (pv 0) (pe_tup pa_nil) rfl)))), ?_⟩
  intro d hd
  have nb : b ≠ d := ne_of_none hb hd
  refine ⟨_, rfl, b, C, dx, _, rfl, by rw [upd_ne nb]; exact hb, BK.cls, BK.nN, by decide, ?_⟩
  refine ⟨by decide, fun m hm => ⟨_, rfl, b, C, dx, [("numbers", .ref d)], rfl, ?_, BK.cls, BK.nM, (show 1 < 1000 by decide), ?_⟩⟩
  · have nbm : b ≠ m := ne_of_none upd_same hm
    rw [upd_ne nbm, upd_same]
    rfl
  have nbm : b ≠ m := ne_of_none upd_same hm
  refine ⟨by decide, fun q hq => ⟨_, rfl, b, C, dx, [("numbers", .ref d), ("made", .ref m)], rfl, ?_, BK.cls, BK.nP, (show 2 < 1000 by decide), ?_⟩⟩
  · have nbq : b ≠ q := ne_of_none upd_same hq
    rw [upd_ne nbq, upd_same, put2]
  have nbq : b ≠ q := ne_of_none upd_same hq
  have nmd : m ≠ d := by
    rintro rfl
    rw [upd_ne (Ne.symm nbm), upd_same] at hm
    cases hm
  have nqm : q ≠ m := by
    rintro rfl
    rw [upd_ne (Ne.symm nbq), upd_same] at hq
    cases hq
  have nqd : q ≠ d := by
    rintro rfl
    rw [upd_ne (Ne.symm nbq), upd_ne nqm, upd_ne (Ne.symm nb), upd_same] at hq
    cases hq
  refine k _ ?_ ⟨d, m, q, ⟨dx, upd_same⟩, ⟨⟨[], ?_, .nil⟩, [], ?_, .nil⟩, [], ?_, .nil⟩
  · intro c o hc ho
    have c1 : c ≠ d := ne_of_none ho hd
    have h2 : upd H d (HO.dK []) c = some o := by rw [upd_ne c1]; exact ho
    have h3 : upd (upd H d (HO.dK [])) b (HO.ins C dx (putF "numbers" (V.ref d) [])) c = some o := by rw [upd_ne hc]; exact h2
    have c2 : c ≠ m := ne_of_none h3 hm
    have c3 : c ≠ q := ne_of_none (by rw [upd_ne hc, upd_ne c2]; exact h3) hq
    rw [upd_ne hc, upd_ne c3, upd_ne hc, upd_ne c2]
    exact h3
  · rw [upd_ne (Ne.symm nb), upd_ne (Ne.symm nqd), upd_ne (Ne.symm nb), upd_ne (Ne.symm nmd), upd_ne (Ne.symm nb), upd_same]
  · rw [upd_ne (Ne.symm nbm), upd_ne (Ne.symm nqm), upd_ne (Ne.symm nbm), upd_same]
    rfl
  · rw [upd_ne (Ne.symm nbq), upd_same]
    rfl
/-- a property's getter that keeps its promise -/
structure Pn (P : Program) (w : World) (K : PySem.W.Frag) (mg : Str → Option Value) (base : Heap) (k : Nat) (C : Addr) (m : Str) (sp : Sp) : Prop where
  ex : ∃ p g fd, FnOk P w K mg base CX0 k g fd ["self"] sp ∧ PropOf K C m p g ∧ Binds K fd ["self"] []
structure AtP (K : PySem.W.Frag) (C : Addr) (m qual : Str) (st : Stmt) : Prop where
  ex : ∃ p g fd, Fun K m qual st g fd ∧ PropOf K C m p g
theorem AtP.ok {m qual : Str} {st : Stmt} {N : List Str} {k : Nat} {sp : Sp} (F : AtP K C m qual st) (S : FnScope N ["self"] (defScope st)) (len : ∀ vs H Q E, sp vs H Q E → vs.length = 1)
    (hb : ∀ (kV doc pm : Value) (an : Option Addr) (cdv ct : Value) (us : List Value), us.length = (["self"] : List Str).length → bindArgs (PySem.W.fnOf m qual (defArgs st) (defBody st) (defScope st) .none kV doc pm an cdv ct) ⟨us, []⟩ = pure ((["self"] : List Str).zip us))
    (hbody : ∀ (f : Addr) (cdv : Value) (A : Around) (outer : List Env) (s : Shared) (H : Hp) (vs : List V) (Q : VK) (E : XK), Room k (A.deeper (envOfC qual (defScope st) s.heap.objs.size f cdv)) → sp vs H Q E →
      ∃ t, PSs (cxOf CX0 P w K mg base N qual (defScope st) f cdv A outer s H E).nox (defBody st) t ∧ t { nx := fun _ H' => Q .non H', rt := Q } (start N vs) H) : Pn P w K mg base (k + 1) C m sp := by
  obtain ⟨p, f, fd, F, hm⟩ := F.ex
  exact ⟨p, f, fd, F.ok S len (hbody f), hm, F.binds hb⟩
theorem pe_pn {X : Cx} {j : Nat} {k : Nat} {m : Str} {sp : Sp} {e : Expr} {pos : Pos} {ta : TE} (D : Pn X.prog X.w X.K X.mg X.base k C m sp) (c : Cls X.K C) (hr : Room j X.A) (hk : k + 1 ≤ j) (he : PE X e ta) (hab : attributeBase e m X.env (eval e X.env) = eval e X.env) : PE X (.Attribute e m pos) (tProp C sp [] E0 ta) := by
  obtain ⟨p, g, fd, F, hp, b⟩ := D.ex
  exact pe_prop he c hp F (hr.mono hk) b .nil pass0 hab
theorem names_of_dic {H : Hp} {d : Addr} {sh : Shelf} (h : NDic H d sh) : ∃ kvs, H d = some (.dK kvs) ∧ (kvs.map fun kv => kV kv.1) = (sh.map (·.1)).map V.str ∧ kvs.length = sh.length := by
  obtain ⟨kvs, hd, r⟩ := h
  have e := r.keys
  refine ⟨kvs, hd, ?_, ?_⟩
  · have : (kvs.map fun kv => kV kv.1) = (kvs.map (·.1)).map kV := by rw [List.map_map]; rfl
    rw [this, e, List.map_map]
    rfl
  · have := congrArg List.length e
    rw [List.length_map, List.length_map, List.length_map] at this
    exact this
theorem d_names (F : AtP K C "names" "Book.names" s_Book_names) (B : Blt mg) (BK : BkT K mg C) : Pn P w K mg base 1 C "names" (spNames C) := by
  refine F.ok sc_Book_names (fun vs H Q E h => ?_) (fun _ _ _ _ _ _ us hl => match us, hl with | [_], _ => rfl) (fun f cdv A outer s H vs Q E hr h => ?_)
  · obtain ⟨_, _, _, rfl, _⟩ := h
    rfl
  obtain ⟨b, pg, past, rfl, hb, hl, k⟩ := h
  obtain ⟨nd, md, pd, ⟨dx, h1⟩, h2, h3⟩ := hb
  obtain ⟨kvs, hd, ek, el⟩ := names_of_dic h2.1
  refine ⟨_, (pss_one (ps_ret (pe_callTy call_tuple_of (by rfl) B.tuple (by decide +kernel) (pa_cons (pe_callB cr_sortedS (by rfl) B.sorted (by decide +kernel) (pa_cons (pe_callTy (call_listD rfl) (by rfl) B.list (by decide +kernel) (pa_cons (pe_fld (pv 0) rfl) pa_nil)) pa_nil)) pa_nil)))), ?_⟩
  refine ⟨_, rfl, b, C, dx, _, _, rfl, h1, BK.cls, BK.nN, lN, nd, kvs, rfl, .of hd, fun p hp => ⟨p, pg.sh.map (·.1), rfl, ?_, by rw [List.length_map]; omega, fun ys q hy hs hq => ?_⟩⟩
  · rw [ek]
    exact SqL.of upd_same
  · refine ⟨q, _, rfl, .inl ⟨SqL.of upd_same, fun l hl => k ys l _ hy hs (((same_new hp).trans (same_new hq)).trans (same_new hl)) upd_same⟩⟩
theorem d_wishes (F : AtP K C "wishes" "Book.wishes" s_Book_wishes) (BK : BkT K mg C) : Pn P w K mg base 1 C "wishes" (spWishes C) := by
  refine F.ok sc_Book_wishes (fun vs H Q E h => ?_) (fun _ _ _ _ _ _ us hl => match us, hl with | [_], _ => rfl) (fun f cdv A outer s H vs Q E hr h => ?_)
  · obtain ⟨_, _, _, rfl, _⟩ := h
    rfl
  obtain ⟨b, pg, past, rfl, hb, k⟩ := h
  obtain ⟨nd, md, pd, ⟨dx, h1⟩, h2, h3⟩ := hb
  refine ⟨_, (pss_one (ps_ret (pe_fld (pv 0) rfl))), ?_⟩
  exact ⟨_, rfl, b, C, dx, _, _, rfl, h1, BK.cls, BK.nM, lM, k md h2.2⟩
theorem d_changes (F : AtP K C "changes" "Book.changes" s_Book_changes) (B : Blt mg) (BK : BkT K mg C) : Pn P w K mg base 1 C "changes" (spChanges C) := by
  refine F.ok sc_Book_changes (fun vs H Q E h => ?_) (fun _ _ _ _ _ _ us hl => match us, hl with | [_], _ => rfl) (fun f cdv A outer s H vs Q E hr h => ?_)
  · obtain ⟨_, _, _, rfl, _⟩ := h
    rfl
  obtain ⟨b, pg, past, rfl, hb, k⟩ := h
  obtain ⟨nd, md, pd, ⟨dx, h1⟩, h2, as, h3, h4⟩ := hb
  refine ⟨_, (pss_one (ps_ret (pe_callB (id := "len") call_len_seq (by rfl) B.len (by decide +kernel) (pa_cons (pe_fld (pv 0) rfl) pa_nil)))), ?_⟩
  refine ⟨_, rfl, b, C, dx, _, _, rfl, h1, BK.cls, BK.nP, lP, pd, _, rfl, .inr (SqT.of h3), ?_⟩
  rw [List.length_map, h4.len]
  exact k
theorem d_become (F : AtM K C "become" "Book.become" s_Book_become) (BK : BkT K mg C) : Mn P w K mg base CX0 1 C "become" ["self", "numbers", "made"] (spBecome C) := by
  refine F.ok sc_Book_become (fun vs H Q E h => ?_) (fun _ _ _ _ _ _ us hl => match us, hl with | [_, _, _], _ => rfl) (fun f cdv A outer s H vs Q E hr h => ?_)
  · obtain ⟨_, _, _, _, _, _, rfl, _⟩ := h
    rfl
  obtain ⟨b, nd', md', pg, past, pg', rfl, hb, hn, hl, k⟩ := h
  obtain ⟨nd, md, pd, ⟨dx, h1⟩, h2, as, h3, h4⟩ := hb
  refine ⟨_, (pss_cons (ps_fld (pv 0) (pe_op op_catA (pe_fld (pv 0) rfl) (pe_tup (pa_cons (pe_tup (pa_cons (pe_fld (pv 0) rfl) (pa_cons (pe_fld (pv 0) rfl) pa_nil))) pa_nil))) rfl)
  (pss_cons (ps_fld (pv 0) (pv 1) rfl)
  (pss_one (ps_fld (pv 0) (pv 2) rfl)))), ?_⟩
  refine ⟨_, rfl, b, C, dx, _, _, rfl, h1, BK.cls, BK.nP, lP, _, rfl, b, C, dx, _, _, rfl, h1, BK.cls, BK.nN, lN, _, rfl, b, C, dx, _, _, rfl, h1, BK.cls, BK.nM, lM, sz2, fun q hq => ⟨sz1, fun r hr => ?_⟩⟩
  have S1 : Same H (upd H q (.tup [.ref nd, .ref md])) := same_new hq
  have S2 := S1.trans (same_new (o := .tup [.ref q]) hr)
  refine cat_of (S2 _ _ h3) upd_same ?_ fun p H3 S3 hp => ?_
  · rw [List.length_map, h4.len]
    exact Nat.le_trans (Nat.add_le_add_right (Nat.le_of_lt hl) 1) (by decide)
  have S : Same H H3 := S2.trans S3
  have hb3 := S _ _ h1
  refine ⟨_, rfl, b, C, dx, _, rfl, hb3, BK.cls, BK.nP, (show 3 < 1000 by decide), ?_⟩
  rw [putP]
  refine ⟨_, rfl, _, rfl, b, C, dx, _, rfl, upd_same, BK.cls, BK.nN, (show 3 < 1000 by decide), ?_⟩
  rw [putN, upd_upd]
  refine ⟨_, rfl, _, rfl, b, C, dx, _, rfl, upd_same, BK.cls, BK.nM, (show 3 < 1000 by decide), ?_⟩
  rw [putM, upd_upd]
  have BB : But b H3 (upd H3 b (.ins C dx [("numbers", .ref nd'), ("made", .ref md'), ("past", .ref p)])) := But.upd
  have T3 := TD.ins BB hb3
  have T := (TD.of S).trans T3
  refine k _ (fun c o hc ho => BB c o hc (S c o ho)) ⟨nd', md', p, ⟨dx, upd_same⟩, hn.td T, as ++ [q], T3.t _ _ ?_, ?_⟩
  · rw [hp, List.map_append]
    rfl
  · refine P2.app (h4.imp fun a g ⟨n, m, e1, e2⟩ => ⟨n, m, T.t _ _ e1, e2.td T⟩) (.cons ⟨nd, md, T3.t _ _ (S3 _ _ (same_new hr _ _ upd_same)), h2.td T⟩ .nil)
theorem d_len (F : AtM K C "__len__" "Book.__len__" s_Book___len__) (B : Blt mg) (BK : BkT K mg C) : Mn P w K mg base CX0 1 C "__len__" ["self"] (spLen C) := by
  refine F.ok sc_Book___len__ (fun vs H Q E h => ?_) (fun _ _ _ _ _ _ us hl => match us, hl with | [_], _ => rfl) (fun f cdv A outer s H vs Q E hr h => ?_)
  · obtain ⟨_, _, _, rfl, _⟩ := h
    rfl
  obtain ⟨b, pg, past, rfl, hb, k⟩ := h
  obtain ⟨nd, md, pd, ⟨dx, h1⟩, h2, h3⟩ := hb
  obtain ⟨kvs, hd, ek, el⟩ := names_of_dic h2.1
  refine ⟨_, (pss_one (ps_ret (pe_callB (id := "len") call_lenD (by rfl) B.len (by decide +kernel) (pa_cons (pe_fld (pv 0) rfl) pa_nil)))), ?_⟩
  refine ⟨_, rfl, b, C, dx, _, _, rfl, h1, BK.cls, BK.nN, lN, nd, kvs, rfl, hd, ?_⟩
  rw [el]
  exact k
theorem d_has (F : AtM K C "__contains__" "Book.__contains__" s_Book___contains__) (B : Blt mg) (BK : BkT K mg C) : Mn P w K mg base CX0 1 C "__contains__" ["self", "name"] (spHas C) := by
  refine F.ok sc_Book___contains__ (fun vs H Q E h => ?_) (fun _ _ _ _ _ _ us hl => match us, hl with | [_, _], _ => rfl) (fun f cdv A outer s H vs Q E hr h => ?_)
  · obtain ⟨_, _, _, _, rfl, _⟩ := h
    rfl
  obtain ⟨b, N, pg, past, rfl, hb, k⟩ := h
  obtain ⟨nd, md, pd, ⟨dx, h1⟩, h2, h3⟩ := hb
  refine ⟨_, (pss_one (ps_ret (pe_and (pe_callB (id := "isinstance") (r := rIsi K) call_isi (by rfl) B.isinstance (by decide +kernel) (pa_cons (pv 1) (pa_cons (pe_bltn (v := .ty "str") (by rfl) B.str (by decide +kernel) rfl) pa_nil))) (pe_one (pe_cmp (pc_din (hu_of hr) (pv 1) (pe_fld (pv 0) rfl))))))), ?_⟩
  refine ⟨_, rfl, _, _, _, _, true, rfl, .ty _, .base (.str _), kit_ty (by decide +kernel), _, rfl, iteT ⟨_, rfl, _, rfl, b, C, dx, _, _, rfl, h1, BK.cls, BK.nN, lN, nd, ?_⟩⟩
  rcases h2.1.get N with ⟨g1, g2⟩ | ⟨q, a, g1, g2, _⟩
  · refine ⟨none, rfl, g2, ?_⟩
    rw [g1] at k
    exact k
  · refine ⟨_, rfl, g2, ?_⟩
    rw [g1] at k
    exact k
theorem d_known (F : AtM K C "check_known" "Book.check_known" s_Book_check_known) (BK : BkT K mg C) (EK : ErK K mg) (D_m___contains__ : Mn P w K mg base CX0 1 C "__contains__" ["self", "name"] (spHas C)) : Mn P w K mg base (L2N.CX P w) 2 C "check_known" ["self", "name"] (spKnown C mg) := by
  obtain ⟨_, _, T_UnknownName⟩ := EK.at_ (.unknown "")
  refine F.okX sc_Book_check_known (fun vs H Q E h => ?_) (fun _ _ _ _ _ _ us hl => match us, hl with | [_, _], _ => rfl) (fun f cdv A outer s H vs Q E hr h => ?_)
  · obtain ⟨_, _, _, _, rfl, _⟩ := h
    rfl
  obtain ⟨b, N, pg, past, rfl, hb, k1, k2⟩ := h
  refine ⟨_, (pss_one (ps_if (pt_cmpR (op_notInO D_m___contains__ hr (by decide)) (pv 1) (pv 0) rfl) (pss_one (ps_raiseE rfl T_UnknownName hr (L2N.takes_of rfl rfl rfl rfl) (pa_cons (pv 1) pa_nil) rfl)) pss_nil)), ?_⟩
  obtain ⟨nd, md, pd, ⟨dx, h1⟩, h2, h3⟩ := id hb
  refine ⟨_, rfl, _, rfl, b, dx, _, rfl, h1, b, N, pg, past, rfl, hb, _, rfl, ?_⟩
  cases e : (look pg.sh N).isSome with
  | true => exact ⟨_, rfl, iteF (k1 e)⟩
  | false => exact ⟨_, rfl, iteT ⟨_, rfl, _, rfl, fun d hd => (k2 e).at (e := .unknown N) (Same.refl H) hd⟩⟩
theorem d_get (F : AtM K C "__getitem__" "Book.__getitem__" s_Book___getitem__) (BK : BkT K mg C) (D_m_check_known : Mn P w K mg base (L2N.CX P w) 2 C "check_known" ["self", "name"] (spKnown C mg)) : Mn P w K mg base (L2N.CX P w) 3 C "__getitem__" ["self", "name"] (spGet C mg) := by
  refine F.okX sc_Book___getitem__ (fun vs H Q E h => ?_) (fun _ _ _ _ _ _ us hl => match us, hl with | [_, _], _ => rfl) (fun f cdv A outer s H vs Q E hr h => ?_)
  · obtain ⟨_, _, _, _, _, rfl, _⟩ := h
    rfl
  obtain ⟨b, N, pg, past, p, rfl, hb, hp, k⟩ := h
  refine ⟨_, (pss_cons (ps_expr (pe_mn D_m_check_known BK.cls hr (by decide) (L2N.passes_call (L2N.takes_of rfl rfl rfl rfl) (fun _ _ _ _ h => h)) (pv 0) (pa_cons (pv 1) pa_nil)))
  (pss_one (ps_ret (pe_dget (by exact hu_of hr) (pe_fld (pv 0) rfl) (pv 1) (fun _ _ => rfl))))), ?_⟩
  obtain ⟨nd, md, pd, ⟨dx, h1⟩, h2, h3⟩ := id hb
  refine ⟨_, rfl, b, dx, _, rfl, h1, rfl, _, rfl, b, N, pg, past, rfl, hb, fun _ => ?_, fun e => ?_⟩
  · refine ⟨_, rfl, b, C, dx, _, _, rfl, h1, BK.cls, BK.nN, lN, _, rfl, ?_⟩
    rcases h2.1.get N with ⟨g1, g2⟩ | ⟨q, a, g1, g2, hn⟩
    · rw [hp] at g1; cases g1
    · rw [hp] at g1
      cases g1
      exact ⟨nd, _, rfl, g2, k a hn⟩
  · rw [hp] at e
    cases e
end
end Pp
-- D2
namespace Pp
open PySem PySem.Spec PyProof.Rows L2
/-! the first that is so -/
theorem fi_some {α : Type} {f : α → Bool} : ∀ {l : List α} {i : Nat} {x : α}, l[i]? = some x → f x = true → (∀ (j : Nat) (y : α), j < i → l[j]? = some y → f y = false) → l.findIdx? f = some i
  | [], _, _, h, _, _ => by simp at h
  | a :: l, 0, x, h, hf, _ => by
    have e : a = x := Option.some.inj h
    subst e
    rw [List.findIdx?_cons, hf]
    rfl
  | a :: l, i + 1, x, h, hf, hn => by
    have h0 := hn 0 a (Nat.succ_pos i) rfl
    have ih := fi_some (l := l) (i := i) h hf fun j y hj hy => hn (j + 1) y (Nat.succ_lt_succ hj) hy
    rw [List.findIdx?_cons, h0, ih]
    rfl
theorem fi_none {α : Type} {f : α → Bool} : ∀ {l : List α}, (∀ (j : Nat) (y : α), l[j]? = some y → f y = false) → l.findIdx? f = none
  | [], _ => rfl
  | a :: l, hn => by
    have h0 := hn 0 a rfl
    have ih := fi_none (l := l) fun j y hy => hn (j + 1) y hy
    rw [List.findIdx?_cons, h0, ih]
    rfl
theorem walk_enuT {K : PySem.W.Frag} {a : Addr} {xs : List V} : Walk (Iteu K a) xs.length (fun H => SqT K H a xs) (YPair (fun i => some (.int (i : Nat))) (fun i => xs[i]?)) := by
  refine ⟨fun i _ hi q => ⟨xs, xs[i], q, by simp [hi]⟩, fun _ q => ⟨xs, q, rfl⟩, fun i H v H' _ q y => ?_⟩
  obtain ⟨T, x, h1, h2, h3, h4⟩ := y
  exact ⟨T, .int (i : Nat), x, h1, h2, h3, rfl, h4 xs q⟩
theorem ref_at {β : Type} {R : Addr → β → Prop} {as : List Addr} {ws : List β} (pw : P2 R as ws) {i : Nat} {y : V} (e : (as.map V.ref)[i]? = some y) : ∃ c wi, y = .ref c ∧ ws[i]? = some wi ∧ R c wi := by
  rw [List.getElem?_map] at e
  cases h : as[i]? with
  | none => rw [h] at e; cases e
  | some c =>
    rw [h] at e
    obtain ⟨wi, h1, h2⟩ := pw.get1 h
    exact ⟨c, wi, (Option.some.inj e).symm, h1, h2⟩
/-- a page that may stand -/
structure PgOk (pg : Page) : Prop where
  sh : ShOk pg.sh
  ti : ∀ q ∈ pg.sh, Title q.1
  nd : (pg.sh.map (·.1)).Nodup
  ws : ∀ w ∈ pg.ws, WiOk w
  ho : ∀ w ∈ pg.ws, holdsW pg.sh w = true
  len : pg.ws.length < 10000
def badAt (sh : Shelf) (ws : List Wi) : Option Nat := ws.findIdx? fun w => !holdsW sh w
def useAt (A : Str) (ws : List Wi) : Option Nat := ws.findIdx? fun w => decide (A ∈ w.names)
/-- what a deed makes of a page -/
def behind (pg : Page) : Deed → Err ⊕ Page
  | .put A p => match badAt (putSh pg.sh A p) pg.ws with
    | some i => .inl (.broken i)
    | none => .inr ⟨putSh pg.sh A p, pg.ws⟩
  | .drop A => match look pg.sh A with
    | none => .inl (.unknown A)
    | some _ => match useAt A pg.ws with
      | some i => .inl (.inUse i)
      | none => .inr ⟨dropSh pg.sh A, pg.ws⟩
  | .wish w => if holdsW pg.sh w = true then .inr ⟨pg.sh, pg.ws ++ [w]⟩ else .inl (.broken pg.ws.length)
  | .lift i => if i < pg.ws.length then .inr ⟨pg.sh, pg.ws.take i ++ pg.ws.drop (i + 1)⟩ else .inl (.index i)
/-- a step of the book: an error, or the next page -/
def Step (C : Addr) (mg : Str → Option Value) (H : Hp) (Q : VK) (E : XK) (b : Addr) (pg : Page) (past : List Page) : Err ⊕ Page → Prop
  | .inl e => Out mg H E e
  | .inr pg' => ∀ H', But b H H' → BookAt C H' b pg' (past ++ [pg]) → Q .non H'
theorem ShOk.put {sh : Shelf} (h : ShOk sh) {A : Str} {p : Plan} (hp : PlanOk p) : ShOk (putSh sh A p) := by
  intro q hq
  unfold putSh at hq
  split at hq
  · obtain ⟨r, hr, e⟩ := List.mem_map.mp hq
    split at e
    · rw [← e]; exact hp
    · rw [← e]; exact h r hr
  · rcases List.mem_append.mp hq with z | z
    · exact h q z
    · have : q = (A, p) := by simpa using z
      rw [this]; exact hp
abbrev s_Book___setitem__ : Stmt := inClass (top 55) 6
theorem sc_Book___setitem__ : FnScope ["self", "name", "number", "numbers", "index", "wish"] ["self", "name", "number"] (defScope s_Book___setitem__) := ⟨rfl, rfl, rfl, by decide +kernel, rfl, by decide +kernel, by decide +kernel⟩
abbrev N_Book___setitem__ : List Str := ["self", "name", "number", "numbers", "index", "wish"]
def spSet (C : Addr) (mg : Str → Option Value) : Sp := fun vs H Q E => ∃ b A a p pg past, vs = [.ref b, .str A, .ref a] ∧ Title A ∧ NumAt H a p ∧ PlanOk p ∧ BookAt C H b pg past ∧ PgOk pg ∧ pg.sh.length < 10000 ∧ past.length < 10000 ∧ Step C mg H Q E b pg past (behind pg (.put A p))
section
variable {P : Program} {w : World} {K : PySem.W.Frag} {mg : Str → Option Value} {base : Heap} {C : Addr}
theorem d_set (F : AtM K C "__setitem__" "Book.__setitem__" s_Book___setitem__) (B : Blt mg) (BK : BkT K mg C) (EK : ErK K mg) (D_is_name : Dn P w K mg base CX0 1 "is_name" ["value"] spIsName) (D_check_number : Dn P w K mg base CX0 4 "check_number" ["value"] spChk)
    (D_holds : Dn P w K mg base CX0 10 "holds" ["wish", "numbers"] spHolds) (D_m_become : Mn P w K mg base CX0 1 C "become" ["self", "numbers", "made"] (spBecome C)) : Mn P w K mg base (L2N.CX P w) 11 C "__setitem__" ["self", "name", "number"] (spSet C mg) := by
  obtain ⟨_, _, T_Broken⟩ := EK.at_ (.broken 0)
  refine F.okX sc_Book___setitem__ (fun vs H Q E h => ?_) (fun _ _ _ _ _ _ us hl => match us, hl with | [_, _, _], _ => rfl) (fun f cdv A outer s H vs Q E hr h => ?_)
  · obtain ⟨_, _, _, _, _, _, rfl, _⟩ := h
    rfl
  obtain ⟨b, N, a, p, pg, past, rfl, hT, ha, hp, hb, hg, hsl, hpl, k⟩ := h
  refine ⟨_, (pss_cons (ps_if (pt_not (pt_val (pe_fn D_is_name hr (by decide) rfl (pa_cons (pv 1) pa_nil)))) (pss_one ps_never) pss_nil)
  (pss_cons (ps_expr (pe_fn D_check_number hr (by decide) rfl (pa_cons (pv 2) pa_nil)))
  (pss_cons (ps_set (i := 3) sc_Book___setitem__.nd rfl (.inl rfl) (pe_callTy call_dictD (by rfl) B.dict (by decide +kernel) (pa_cons (pe_fld (pv 0) rfl) pa_nil)))
  (pss_cons (ps_dput (hu_of hr) (pv 3) (pv 1) (pv 2) (by rfl))
  (pss_cons (ps_for (passes_of rfl) rfl (pi_enumT rfl B.enumerate (pa_cons (pe_fld (pv 0) rfl) pa_nil)) (pg_tup rfl (pgs_cons (pg_name (i := 4) sc_Book___setitem__.nd rfl (.inl rfl)) (pgs_cons (pg_name (i := 5) sc_Book___setitem__.nd rfl (.inl rfl)) pgs_nil)))
    (pss_one (ps_if (pt_not (pt_val (pe_fn D_holds hr (by decide) rfl (pa_cons (pv 5) (pa_cons (pv 3) pa_nil))))) (pss_one (ps_raiseE rfl T_Broken hr (L2N.takes_of rfl rfl rfl rfl) (pa_cons (pv 4) pa_nil) rfl)) pss_nil)))
  (pss_one (ps_expr (pe_mn D_m_become BK.cls hr (by decide) pass0 (pv 0) (pa_cons (pv 3) (pa_cons (pe_fld (pv 0) rfl) pa_nil)))))))))), ?_⟩
  obtain ⟨nd, md, pd, ⟨dx, h1⟩, h2, h3⟩ := id hb
  obtain ⟨kvs, hd, rr⟩ := id h2.1
  obtain ⟨as, hm, pw⟩ := id h2.2
  refine ⟨_, rfl, N, rfl, hT, fun H1 S1 => ⟨_, rfl, iteF ?_⟩⟩
  refine ⟨_, rfl, a, p, rfl, ha.on S1, hp, ?_⟩
  refine ⟨_, rfl, b, C, dx, _, _, rfl, S1 _ _ h1, BK.cls, BK.nN, lN, nd, kvs, rfl, .of (S1 _ _ hd), fun q hq => ?_⟩
  have S2 : Same H (upd H1 q (.dK kvs)) := S1.trans (same_new hq)
  have kl : kvs.length = pg.sh.length := by
    have := congrArg List.length rr.keys
    simpa using this
  refine ⟨_, rfl, _, rfl, _, rfl, q, _, rfl, DPut.k (k := Sum.inr N) upd_same (by rw [kl]; exact Nat.lt_trans hsl (by decide)), ?_⟩
  rw [upd_upd]
  -- the heap with the new dict
  have S : Same H (upd H1 q (.dK (putK kvs (Sum.inr N : Key) (.ref a)))) := S1.trans (same_new hq)
  generalize hH2 : upd H1 q (.dK (putK kvs (Sum.inr N : Key) (.ref a))) = H2 at S
  have ha2 := ha.on S
  have hnd : NDic H2 q (putSh pg.sh N p) := by
    refine ⟨_, by rw [← hH2]; exact upd_same, Rel2.put ⟨a, rfl, ha2⟩ (rr.imp fun p v ⟨c, e, n⟩ => ⟨c, e, n.on S⟩)⟩
  have hso : ShOk (putSh pg.sh N p) := hg.sh.put hp
  refine ⟨_, rfl, b, C, dx, _, _, rfl, S _ _ h1, BK.cls, BK.nM, lM, md, _, rfl, SqT.of (S _ _ hm), ?_⟩
  refine for_it (walk_enuT (K := K) (a := md) (xs := as.map V.ref)) (fun i σ H3 => Same H2 H3 ∧ (∃ x y, σ = [some (.ref b), some (.str N), some (.ref a), some (.ref q), x, y]) ∧ ∀ j w', j < i → pg.ws[j]? = some w' → holdsW (putSh pg.sh N p) w' = true) ⟨Same.refl _, ⟨_, _, rfl⟩, fun j w' hj => absurd hj (Nat.not_lt_zero j)⟩ (fun i σ H3 _ ⟨S3, _⟩ => SqT.of (S3 _ _ (S _ _ hm))) ?_ ?_
  · rintro i x σ H3 H4 hi ⟨S3, ⟨x1, y1, rfl⟩, hj⟩ ⟨T, x2, y2, rfl, hT2, rfl, e1, e2⟩
    cases e1
    obtain ⟨c, wi, rfl, hwi, hw⟩ := ref_at pw e2
    have S4 : Same H2 (upd H3 T (.tup [.int (i : Nat), .ref c])) := S3.trans (same_new hT2)
    refine ⟨T, _, rfl, SqT.of upd_same, rfl, _, _, rfl, _, _, rfl, rfl, ?_⟩
    have hwm : wi ∈ pg.ws := List.mem_of_getElem? hwi
    refine ⟨_, rfl, _, rfl, c, q, wi, putSh pg.sh N p, rfl, (S.trans S4) _ _ hw, hg.ws _ hwm, hnd.on S4, hso, fun H5 S5 => ⟨_, rfl, ?_⟩⟩
    have S25 := S4.trans S5
    cases e : holdsW (putSh pg.sh N p) wi with
    | true =>
      refine iteF ⟨S25, ⟨_, _, rfl⟩, fun j w' hj' hw' => ?_⟩
      by_cases z : j = i
      · subst z
        rw [hwi] at hw'
        cases hw'
        exact e
      · exact hj j w' (by omega) hw'
    | false =>
      have eb : badAt (putSh pg.sh N p) pg.ws = some i := fi_some hwi (by rw [e]; rfl) fun j y hj' hy => by rw [hj j y hj' hy]; rfl
      rw [behind, eb] at k
      exact iteT ⟨_, rfl, _, rfl, fun d hd' => Out.at (e := .broken i) k (S.trans S25) hd'⟩
  · rintro σ H3 ⟨S3, ⟨x1, y1, rfl⟩, hj⟩
    have eb : badAt (putSh pg.sh N p) pg.ws = none := fi_none fun j y hy => by
      rw [hj j y ?_ hy]
      · rfl
      · rw [List.length_map, pw.len]
        exact (List.getElem?_eq_some_iff.mp hy).1
    rw [behind, eb] at k
    have SS := S.trans S3
    refine ⟨_, rfl, b, dx, _, rfl, SS _ _ h1, rfl, _, rfl, _, rfl, b, C, dx, _, _, rfl, SS _ _ h1, BK.cls, BK.nM, lM, b, q, md, pg, past, ⟨putSh pg.sh N p, pg.ws⟩, rfl, hb.on SS, ⟨hnd.on S3, h2.2.td (.of SS)⟩, hpl, fun H5 B5 hb5 => ?_⟩
    exact k _ (fun c o hc ho => B5 c o hc (SS c o ho)) hb5
end
end Pp
-- D3
namespace Pp
open PySem PySem.Spec PyProof.Rows L2
theorem put_new {R : Plan → V → Prop} {sh : Shelf} {kvs : List (Key × V)} {A : Str} {p : Plan} {v : V} (h : Rel2 R sh kvs) (hv : R p v) (hn : ∀ q ∈ sh, q.1 ≠ A) : Rel2 R (sh ++ [(A, p)]) (putK kvs (Sum.inr A : Key) v) := by
  have e : putSh sh A p = sh ++ [(A, p)] := by
    unfold putSh
    rw [if_neg]
    rw [List.any_eq_true]
    rintro ⟨q, hq, e⟩
    exact hn q hq (by simpa using e)
  rw [← e]
  exact h.put hv
theorem rel_get1 {R : Plan → V → Prop} : ∀ {sh : Shelf} {kvs : List (Key × V)} {i : Nat} {k : Key} {v : V}, Rel2 R sh kvs → kvs[i]? = some (k, v) → ∃ x p, sh[i]? = some (x, p) ∧ k = Sum.inr x ∧ R p v
  | _, _, _, _, _, .nil, h => by simp at h
  | _, _, 0, _, _, .cons (x := x) (p := p) h t, e => by
    have := Option.some.inj e
    cases this
    exact ⟨x, p, rfl, rfl, h⟩
  | _, _, i + 1, _, _, .cons h t, e => rel_get1 (i := i) t e
theorem look_at : ∀ {sh : Shelf} {i : Nat} {x : Str} {p : Plan}, (sh.map (·.1)).Nodup → sh[i]? = some (x, p) → look sh x = some p
  | [], _, _, _, _, h => by simp at h
  | (y, q) :: sh, 0, x, p, hn, h => by
    have := Option.some.inj h
    cases this
    unfold look
    rw [List.find?_cons, decide_eq_true rfl]
    rfl
  | (y, q) :: sh, i + 1, x, p, hn, h => by
    rw [List.map_cons, List.nodup_cons] at hn
    have hm : (x, p) ∈ sh := List.mem_of_getElem? (i := i) h
    have ne : y ≠ x := fun z => hn.1 (by rw [z]; exact List.mem_map.mpr ⟨_, hm, rfl⟩)
    have e1 : look ((y, q) :: sh) x = look sh x := by
      unfold look
      rw [List.find?_cons, decide_eq_false ne]
    rw [e1]
    exact look_at hn.2 (i := i) h
theorem take_ne : ∀ {sh : Shelf} {i : Nat} {x : Str} {p : Plan} {q : Str × Plan}, (sh.map (·.1)).Nodup → sh[i]? = some (x, p) → q ∈ sh.take i → q.1 ≠ x
  | [], _, _, _, _, _, h, _ => by simp at h
  | _ :: _, 0, _, _, _, _, _, hq => by simp at hq
  | (y, r) :: sh, i + 1, x, p, q, hn, h, hq => by
    rw [List.map_cons, List.nodup_cons] at hn
    rw [List.take_succ_cons, List.mem_cons] at hq
    have h' : sh[i]? = some (x, p) := h
    rcases hq with rfl | hq
    · intro z
      exact hn.1 (by rw [show y = x from z]; exact List.mem_map.mpr ⟨_, List.mem_of_getElem? h', rfl⟩)
    · exact take_ne hn.2 h' hq
theorem Rel2.nodup {R : Plan → V → Prop} {sh : Shelf} {kvs : List (Key × V)} (h : Rel2 R sh kvs) : kvs.length = sh.length := by
  have := congrArg List.length h.keys
  simpa using this
/-- within a comprehension: the reading without the block -/
theorem pe_fldK {X : Cx} {K : PySem.W.Frag} {e : Expr} {f : Str} {pos : Pos} {ta : TE} (he : PE X e ta) (hK : X.K = K) (hb : attributeBase e f X.env (eval e X.env) = eval e X.env) : PE X (.Attribute e f pos) (tFld K ta f) := hK ▸ pe_fld he hb
theorem inV_names {N : Str} {l : List Str} : inV (V.str N) (l.map V.str) = decide (N ∈ l) := by
  unfold inV
  induction l with
  | nil => rfl
  | cons a l ih =>
    rw [List.map_cons, List.any_cons, ih]
    show ((a == N) || decide (N ∈ l)) = decide (N ∈ a :: l)
    by_cases h : a = N
    · subst h
      simp
    · have h' : ¬ N = a := fun z => h z.symm
      simp [h, h']
theorem cut_take {xs : List V} {i : Nat} : cutV xs none (some (i : Int)) = xs.take i := by
  unfold cutV
  rw [HT.sIx_none, HT.sIx_nat, List.drop_zero, Nat.sub_zero]
  by_cases h : i ≤ xs.length
  · rw [Nat.min_eq_left h]
  · rw [Nat.min_eq_right (by omega), List.take_of_length_le (by omega), List.take_of_length_le (by omega)]
theorem cut_drop {xs : List V} {i : Nat} : cutV xs (some (i : Int)) none = xs.drop i := by
  unfold cutV
  rw [HT.sIx_none, HT.sIx_nat]
  by_cases h : i ≤ xs.length
  · rw [Nat.min_eq_left h, List.take_of_length_le (by rw [List.length_drop]; omega)]
  · rw [Nat.min_eq_right (by omega), List.drop_of_length_le (by omega), List.drop_of_length_le (by omega), List.take_nil]
abbrev s_Book_drop : Stmt := inClass (top 55) 11
theorem sc_Book_drop : FnScope ["self", "name", "index", "wish", "other"] ["self", "name"] (defScope s_Book_drop) := ⟨rfl, rfl, rfl, by decide +kernel, rfl, by decide +kernel, by decide +kernel⟩
abbrev N_Book_drop : List Str := ["self", "name", "index", "wish", "other"]
def spDrop (C : Addr) (mg : Str → Option Value) : Sp := fun vs H Q E => ∃ b A pg past, vs = [.ref b, .str A] ∧ BookAt C H b pg past ∧ PgOk pg ∧ pg.sh.length < 10000 ∧ past.length < 10000 ∧ Step C mg H Q E b pg past (behind pg (.drop A))
abbrev s_Book_wish : Stmt := inClass (top 55) 12
theorem sc_Book_wish : FnScope ["self", "wish"] ["self", "wish"] (defScope s_Book_wish) := ⟨rfl, rfl, rfl, by decide +kernel, rfl, by decide +kernel, by decide +kernel⟩
abbrev N_Book_wish : List Str := ["self", "wish"]
def spWish (C : Addr) (mg : Str → Option Value) : Sp := fun vs H Q E => ∃ b x wi pg past, vs = [.ref b, .ref x] ∧ WiAt H x wi ∧ WiOk wi ∧ BookAt C H b pg past ∧ PgOk pg ∧ past.length < 10000 ∧ Step C mg H Q E b pg past (behind pg (.wish wi))
abbrev s_Book_lift : Stmt := inClass (top 55) 13
theorem sc_Book_lift : FnScope ["self", "index"] ["self", "index"] (defScope s_Book_lift) := ⟨rfl, rfl, rfl, by decide +kernel, rfl, by decide +kernel, by decide +kernel⟩
abbrev N_Book_lift : List Str := ["self", "index"]
def spLift (C : Addr) (mg : Str → Option Value) : Sp := fun vs H Q E => ∃ b, ∃ i : Nat, ∃ pg past, vs = [.ref b, .int (i : Int)] ∧ BookAt C H b pg past ∧ PgOk pg ∧ past.length < 10000 ∧ Step C mg H Q E b pg past (behind pg (.lift i))
section
variable {P : Program} {w : World} {K : PySem.W.Frag} {mg : Str → Option Value} {base : Heap} {C : Addr}
theorem d_wish (F : AtM K C "wish" "Book.wish" s_Book_wish) (B : Blt mg) (BK : BkT K mg C) (EK : ErK K mg) (D_is_wish : Dn P w K mg base CX0 3 "is_wish" ["value"] spIsWish)
    (D_holds : Dn P w K mg base CX0 10 "holds" ["wish", "numbers"] spHolds) (D_m_become : Mn P w K mg base CX0 1 C "become" ["self", "numbers", "made"] (spBecome C)) : Mn P w K mg base (L2N.CX P w) 11 C "wish" ["self", "wish"] (spWish C mg) := by
  obtain ⟨_, _, T_Broken⟩ := EK.at_ (.broken 0)
  refine F.okX sc_Book_wish (fun vs H Q E h => ?_) (fun _ _ _ _ _ _ us hl => match us, hl with | [_, _], _ => rfl) (fun f cdv A outer s H vs Q E hr h => ?_)
  · obtain ⟨_, _, _, _, _, rfl, _⟩ := h
    rfl
  obtain ⟨b, x, wi, pg, past, rfl, hx, hw, hb, hg, hpl, k⟩ := h
  refine ⟨_, (pss_cons (ps_if (pt_not (pt_val (pe_fn D_is_wish hr (by decide) rfl (pa_cons (pv 1) pa_nil)))) (pss_one ps_never) pss_nil)
  (pss_cons (ps_if (pt_not (pt_val (pe_fn D_holds hr (by decide) rfl (pa_cons (pv 1) (pa_cons (pe_fld (pv 0) rfl) pa_nil))))) (pss_one (ps_raiseE rfl T_Broken hr (L2N.takes_of rfl rfl rfl rfl) (pa_cons (pe_callB (id := "len") call_len_seq (by rfl) B.len (by decide +kernel) (pa_cons (pe_fld (pv 0) rfl) pa_nil)) pa_nil) rfl)) pss_nil)
  (pss_one (ps_expr (pe_mn D_m_become BK.cls hr (by decide) pass0 (pv 0) (pa_cons (pe_fld (pv 0) rfl) (pa_cons (pe_op op_catA (pe_fld (pv 0) rfl) (pe_tup (pa_cons (pv 1) pa_nil))) pa_nil))))))), ?_⟩
  obtain ⟨nd, md, pd, ⟨dx, h1⟩, h2, h3⟩ := id hb
  obtain ⟨as, hm, pw⟩ := id h2.2
  refine ⟨_, rfl, x, wi, rfl, hx, hw, fun H1 S1 => ⟨_, rfl, iteF ?_⟩⟩
  refine ⟨_, rfl, _, rfl, b, C, dx, _, _, rfl, S1 _ _ h1, BK.cls, BK.nN, lN, x, nd, wi, pg.sh, rfl, S1 _ _ hx, hw, h2.1.on S1, hg.sh, fun H2 S2 => ⟨_, rfl, ?_⟩⟩
  have S := S1.trans S2
  cases e : holdsW pg.sh wi with
  | true =>
    rw [behind, if_pos e] at k
    refine iteF ⟨_, rfl, b, dx, _, rfl, S _ _ h1, rfl, _, rfl, b, C, dx, _, _, rfl, S _ _ h1, BK.cls, BK.nN, lN, _, rfl, b, C, dx, _, _, rfl, S _ _ h1, BK.cls, BK.nM, lM, _, rfl, sz1, fun q hq => ?_⟩
    have S3 := S.trans (same_new (o := .tup [.ref x]) hq)
    refine cat_of (S3 _ _ hm) upd_same (Nat.le_trans (Nat.add_le_add_right (Nat.le_of_lt (show (as.map V.ref).length < 10000 by rw [List.length_map, pw.len]; exact hg.len)) 1) (by decide)) fun p H3 S4 hp => ?_
    have SS := S3.trans S4
    refine ⟨b, nd, p, pg, past, ⟨pg.sh, pg.ws ++ [wi]⟩, rfl, hb.on SS, ⟨h2.1.on SS, as ++ [x], by rw [hp, List.map_append]; rfl, (pw.imp fun a w h => SS _ _ h).app (.cons (SS _ _ hx) .nil)⟩, hpl, fun H5 B5 hb5 => ?_⟩
    exact k _ (fun c o hc ho => B5 c o hc (SS c o ho)) hb5
  | false =>
    rw [behind, if_neg (by rw [e]; decide)] at k
    refine iteT ⟨_, rfl, b, C, dx, _, _, rfl, S _ _ h1, BK.cls, BK.nM, lM, md, _, rfl, .inr (SqT.of (S _ _ hm)), _, rfl, fun d hd => ?_⟩
    have := Out.at (e := .broken pg.ws.length) k S hd
    rw [show (as.map V.ref).length = pg.ws.length by rw [List.length_map, pw.len]]
    exact this
theorem d_lift (F : AtM K C "lift" "Book.lift" s_Book_lift) (B : Blt mg) (BK : BkT K mg C) (EK : ErK K mg) (D_is_between : Dn P w K mg base CX0 2 "is_between" ["value", "low", "high"] spBetween)
    (D_m_become : Mn P w K mg base CX0 1 C "become" ["self", "numbers", "made"] (spBecome C)) : Mn P w K mg base (L2N.CX P w) 3 C "lift" ["self", "index"] (spLift C mg) := by
  obtain ⟨_, _, T_InvalidIndex⟩ := EK.at_ (.index 0)
  refine F.okX sc_Book_lift (fun vs H Q E h => ?_) (fun _ _ _ _ _ _ us hl => match us, hl with | [_, _], _ => rfl) (fun f cdv A outer s H vs Q E hr h => ?_)
  · obtain ⟨_, _, _, _, rfl, _⟩ := h
    rfl
  obtain ⟨b, i, pg, past, rfl, hb, hg, hpl, k⟩ := h
  refine ⟨_, (pss_cons (ps_if (pt_not (pt_val (pe_fn D_is_between hr (by decide) rfl (pa_cons (pv 1) (pa_cons pe_int (pa_cons (pe_op op_sub (pe_callB (id := "len") call_len_seq (by rfl) B.len (by decide +kernel) (pa_cons (pe_fld (pv 0) rfl) pa_nil)) pe_int) pa_nil)))))) (pss_one (ps_raiseE rfl T_InvalidIndex hr (L2N.takes_of rfl rfl rfl rfl) (pa_cons (pv 1) pa_nil) rfl)) pss_nil)
  (pss_one (ps_expr (pe_mn D_m_become BK.cls hr (by decide) pass0 (pv 0) (pa_cons (pe_fld (pv 0) rfl) (pa_cons (pe_op op_catA (pe_slice sl_tupA (pe_fld (pv 0) rfl) po_none (po_some (pv 1))) (pe_slice sl_tupA (pe_fld (pv 0) rfl) (po_some (pe_op op_add (pv 1) pe_int)) po_none)) pa_nil)))))), ?_⟩
  obtain ⟨nd, md, pd, ⟨dx, h1⟩, h2, h3⟩ := id hb
  obtain ⟨as, hm, pw⟩ := id h2.2
  have ln : (as.map V.ref).length = pg.ws.length := by rw [List.length_map, pw.len]
  have lt := hg.len
  refine ⟨_, rfl, _, rfl, b, C, dx, _, _, rfl, h1, BK.cls, BK.nM, lM, md, _, rfl, .inr (SqT.of hm), _, _, rfl, rfl, ?_⟩
  refine ⟨(i : Int), 0, _, rfl, _, rfl, ?_⟩
  rw [ln]
  by_cases c : i < pg.ws.length
  · have ec : (decide ((0 : Int) ≤ (i : Int)) && decide ((i : Int) ≤ (pg.ws.length : Int) - 1)) = true := by
      rw [Bool.and_eq_true, decide_eq_true_eq, decide_eq_true_eq]
      omega
    rw [ec]
    rw [behind, if_pos c] at k
    refine iteF ⟨_, rfl, b, dx, _, rfl, h1, rfl, _, rfl, b, C, dx, _, _, rfl, h1, BK.cls, BK.nN, lN, _, rfl, b, C, dx, _, _, rfl, h1, BK.cls, BK.nM, lM, _, rfl, _, rfl, ?_⟩
    refine sl_of hm fun p H1 S1 hp => ?_
    rw [cut_take] at hp
    refine ⟨_, rfl, b, C, dx, _, _, rfl, S1 _ _ h1, BK.cls, BK.nM, lM, _, rfl, _, _, rfl, rfl, _, rfl, ?_⟩
    have e0 : ∀ {σ : L2.St} {H : Hp} {R : Option Int → Hp → Prop}, R none H → tNoPart σ H R := fun h => h
    refine e0 ?_
    refine sl_of (S1 _ _ hm) fun q H2 S2 hq => ?_
    have ei : (i : Int) + 1 = ((i + 1 : Nat) : Int) := by omega
    rw [ei, cut_drop] at hq
    refine cat_of (S2 _ _ hp) hq ?_ fun r H3 S3 hr3 => ?_
    · rw [List.length_take, List.length_drop, ln]
      exact Nat.le_trans (show _ ≤ 10000 by omega) (by decide)
    have SS := (S1.trans S2).trans S3
    refine ⟨b, nd, r, pg, past, ⟨pg.sh, pg.ws.take i ++ pg.ws.drop (i + 1)⟩, rfl, hb.on SS, ⟨h2.1.on SS, as.take i ++ as.drop (i + 1), ?_, P2.app ((pw.imp fun a w h => SS _ _ h).take i) ((pw.imp fun a w h => SS _ _ h).drop (i + 1))⟩, hpl, fun H5 B5 hb5 => ?_⟩
    · rw [hr3, List.map_append, List.map_take, List.map_drop]
    · exact k _ (fun c o hc ho => B5 c o hc (SS c o ho)) hb5
  · have ec : (decide ((0 : Int) ≤ (i : Int)) && decide ((i : Int) ≤ (pg.ws.length : Int) - 1)) = false := by
      rw [Bool.and_eq_false_iff]
      right
      rw [decide_eq_false_iff_not]
      omega
    rw [ec]
    rw [behind, if_neg c] at k
    exact iteT ⟨_, rfl, _, rfl, fun d hd => Out.at (e := .index i) k (Same.refl H) hd⟩
theorem d_drop (F : AtM K C "drop" "Book.drop" s_Book_drop) (B : Blt mg) (BK : BkT K mg C) (EK : ErK K mg) (D_names_in : Dn P w K mg base CX0 1 "names_in" ["wish"] spNamesIn) (D_m_check_known : Mn P w K mg base (L2N.CX P w) 2 C "check_known" ["self", "name"] (spKnown C mg))
    (D_m_become : Mn P w K mg base CX0 1 C "become" ["self", "numbers", "made"] (spBecome C)) : Mn P w K mg base (L2N.CX P w) 3 C "drop" ["self", "name"] (spDrop C mg) := by
  obtain ⟨_, _, T_InUse⟩ := EK.at_ (.inUse 0)
  refine F.okX sc_Book_drop (fun vs H Q E h => ?_) (fun _ _ _ _ _ _ us hl => match us, hl with | [_, _], _ => rfl) (fun f cdv A outer s H vs Q E hr h => ?_)
  · obtain ⟨_, _, _, _, rfl, _⟩ := h
    rfl
  obtain ⟨b, N, pg, past, rfl, hb, hg, hsl, hpl, k⟩ := h
  refine ⟨_, (pss_cons (ps_expr (pe_mn D_m_check_known BK.cls hr (by decide) (L2N.passes_call (L2N.takes_of rfl rfl rfl rfl) (fun _ _ _ _ h => h)) (pv 0) (pa_cons (pv 1) pa_nil)))
  (pss_cons (ps_for (passes_of rfl) rfl (pi_enumT rfl B.enumerate (pa_cons (pe_fld (pv 0) rfl) pa_nil)) (pg_tup rfl (pgs_cons (pg_name (i := 2) sc_Book_drop.nd rfl (.inl rfl)) (pgs_cons (pg_name (i := 3) sc_Book_drop.nd rfl (.inl rfl)) pgs_nil)))
    (pss_one (ps_if (pt_cmpR op_in_seq (pv 1) (pe_fn D_names_in hr (by decide) rfl (pa_cons (pv 3) pa_nil)) rfl) (pss_one (ps_raiseE rfl T_InUse hr (L2N.takes_of rfl rfl rfl rfl) (pa_cons (pv 2) pa_nil) rfl)) pss_nil)))
  (pss_one (ps_expr (pe_mn D_m_become BK.cls hr (by decide) pass0 (pv 0) (pa_cons (pe_lock (pe_dc (own := [("other", 4)]) (g := gName 4) rfl sc_Book_drop.nd (pi_keys (pe_fld (pv 0) rfl)) (blkOk_by (own := [("other", 4)]) (N := N_Book_drop) (sc := defScope s_Book_drop) (by decide +kernel)) (fun _ _ _ _ _ => pg_name (i := 4) sc_Book_drop.nd rfl (Or.inl rfl)) (fun _ _ _ _ _ => pts_one (pt_cmpR op_ne (pv 4) (pv 1) (nomark _))) (fun _ _ _ _ _ => (pv 4)) (fun _ _ _ _ _ => (pe_dget (by exact hu_of hr) (pe_fldK (K := K) (pv 0) (by rfl) (by rfl)) (pv 4) (fun _ _ => rfl))))) (pa_cons (pe_fld (pv 0) rfl) pa_nil))))))), ?_⟩
  obtain ⟨nd, md, pd, ⟨dx, h1⟩, h2, h3⟩ := id hb
  obtain ⟨as, hm, pw⟩ := id h2.2
  refine ⟨_, rfl, b, dx, _, rfl, h1, rfl, _, rfl, b, N, pg, past, rfl, hb, fun hs => ?_, fun hs => ?_⟩
  · obtain ⟨p0, hp0⟩ := Option.isSome_iff_exists.mp hs
    rw [behind, hp0] at k
    refine ⟨_, rfl, b, C, dx, _, _, rfl, h1, BK.cls, BK.nM, lM, md, _, rfl, SqT.of hm, ?_⟩
    refine for_it (walk_enuT (K := K) (a := md) (xs := as.map V.ref)) (fun i σ H3 => Same H H3 ∧ (∃ x y, σ = [some (.ref b), some (.str N), x, y, none]) ∧ ∀ j w', j < i → pg.ws[j]? = some w' → decide (N ∈ w'.names) = false) ⟨Same.refl _, ⟨_, _, rfl⟩, fun j w' hj => absurd hj (Nat.not_lt_zero j)⟩ (fun i σ H3 _ ⟨S3, _⟩ => SqT.of (S3 _ _ hm)) ?_ ?_
    · rintro i x σ H3 H4 hi ⟨S3, ⟨x1, y1, rfl⟩, hj⟩ ⟨T, x2, y2, rfl, hT2, rfl, e1, e2⟩
      cases e1
      obtain ⟨c, wi, rfl, hwi, hw⟩ := ref_at pw e2
      have S4 : Same H (upd H3 T (.tup [.int (i : Nat), .ref c])) := S3.trans (same_new hT2)
      refine ⟨T, _, rfl, SqT.of upd_same, rfl, _, _, rfl, _, _, rfl, rfl, ?_⟩
      refine ⟨_, rfl, _, rfl, c, wi, rfl, S4 _ _ hw, fun q H5 S5 hq => ⟨q, _, rfl, .inr (SqT.of hq), rfl, ?_, _, rfl, ?_⟩⟩
      · rw [List.all_eq_true]
        intro y hy
        obtain ⟨z, _, rfl⟩ := List.mem_map.mp hy
        rfl
      have S6 := S4.trans S5
      rw [show (if false = true then !inV (V.str N) (wi.names.map V.str) else inV (V.str N) (wi.names.map V.str)) = decide (N ∈ wi.names) from inV_names]
      cases e : decide (N ∈ wi.names) with
      | false =>
        refine iteF ⟨S6, ⟨_, _, rfl⟩, fun j w' hj' hw' => ?_⟩
        by_cases z : j = i
        · subst z
          rw [hwi] at hw'
          cases hw'
          exact e
        · exact hj j w' (by omega) hw'
      | true =>
        have eb : useAt N pg.ws = some i := fi_some hwi e hj
        rw [eb] at k
        exact iteT ⟨_, rfl, _, rfl, fun d hd' => Out.at (e := .inUse i) k S6 hd'⟩
    · rintro σ H3 ⟨S3, ⟨x1, y1, rfl⟩, hj⟩
      have eb : useAt N pg.ws = none := fi_none fun j y hy => hj j y (by
        rw [List.length_map, pw.len]
        exact (List.getElem?_eq_some_iff.mp hy).1) hy
      rw [eb] at k
      obtain ⟨kvs, hd, rr⟩ := id h2.1
      have kl := rr.nodup
      refine ⟨_, rfl, b, dx, _, rfl, S3 _ _ h1, rfl, ?_⟩
      refine ⟨nd, .dK kvs, S3 _ _ hd, True.intro, fun od => ?_⟩
      generalize hHf : upd H3 nd (.frz od (.dK kvs)) = Hf
      have bf : ∀ c o, c ≠ nd → H c = some o → Hf c = some o := fun c o hc ho => by rw [← hHf, upd_ne hc]; exact S3 _ _ ho
      have hnf : Hf nd = some (.frz od (.dK kvs)) := by rw [← hHf, upd_same]
      have bnd : b ≠ nd := ne_of h1 hd (fun z => by cases z)
      refine ⟨_, rfl, b, C, dx, _, _, rfl, bf _ _ bnd h1, BK.cls, BK.nN, lN, nd, od, rfl, .inl ⟨kvs, hnf, fun D hD => ?_⟩⟩
      refine ⟨fun i m H' => m = kvs.length - i ∧ i ≤ kvs.length ∧ (∀ c o, c ≠ D → Hf c = some o → H' c = some o) ∧ ∃ acc, H' D = some (.dK acc) ∧ acc.length ≤ i ∧ Rel2 (fun p v => ∃ a, v = .ref a ∧ NumAt H a p) (dropSh (pg.sh.take i) N) acc, ⟨_, rfl, Nat.zero_le _, fun c o hc ho => by rw [upd_ne hc]; exact ho, [], upd_same, Nat.le_refl _, .nil⟩, ?_⟩
      rintro i m H' ⟨rfl, hi, hk, acc, hacc, hal, hrel⟩
      have nD : nd ≠ D := ne_of_none hnf hD
      by_cases c : i < kvs.length
      · refine .inr ⟨⟨hk _ _ nD hnf, c⟩, _, fun H2 h2 => ⟨_, (show kvs.length - (i + 1) < kvs.length - i by omega), h2⟩, ?_⟩
        rintro x H2 ⟨rfl, key, v, hkv, rfl⟩
        obtain ⟨A', p', hs', rfl, a', rfl, hn'⟩ := rel_get1 rr hkv
        refine ⟨rfl, _, rfl, _, rfl, rfl, _, rfl, ?_⟩
        have et : pg.sh.take (i + 1) = pg.sh.take i ++ [(A', p')] := by rw [List.take_succ, hs']; rfl
        by_cases z : A' = N
        · rw [show decide (kV (Sum.inr A') = V.str N) = true from decide_eq_true (by rw [z]; rfl)]
          refine iteF ⟨rfl, c, hk, acc, hacc, Nat.le_succ_of_le hal, ?_⟩
          have ed : dropSh (pg.sh.take (i + 1)) N = dropSh (pg.sh.take i) N := by
            unfold dropSh
            rw [et, List.filter_append, List.filter_cons, decide_eq_false (fun y => y z)]
            simp
          rw [ed]
          exact hrel
        · rw [show decide (kV (Sum.inr A') = V.str N) = false from decide_eq_false (fun y => z (V.str.inj y))]
          have lk := look_at hg.nd hs'
          obtain ⟨v2, hv2, a2, rfl, hn2⟩ : ∃ v, valV kvs (Sum.inr A' : Key) = some v ∧ ∃ a, v = .ref a ∧ NumAt H a p' := by
            rcases rr.look (A := A') with ⟨g1, _⟩ | ⟨p3, v3, g1, g2, g3⟩
            · rw [lk] at g1; cases g1
            · rw [lk] at g1
              cases g1
              exact ⟨v3, g2, g3⟩
          have bD : b ≠ D := ne_of_none (bf _ _ bnd h1) hD
          refine iteT ⟨_, rfl, _, rfl, b, C, dx, _, _, rfl, hk _ _ bD (bf _ _ bnd h1), BK.cls, BK.nN, lN, _, rfl, nd, _, rfl, .inl ⟨kvs, Sum.inr A', .inr ⟨od, hk _ _ nD hnf⟩, rfl, hv2.symm⟩, acc, Sum.inr A', rfl, hacc, ?_, rfl, c, fun c' o hc ho => by rw [upd_ne hc]; exact hk c' o hc ho, _, upd_same, ?_, ?_⟩
          · exact Nat.lt_of_le_of_lt hal (Nat.lt_of_lt_of_le c (Nat.le_trans (show kvs.length ≤ 10000 by omega) (by decide)))
          · have := length_putK acc (Sum.inr A' : Key) (V.ref a2)
            omega
          · have ed : dropSh (pg.sh.take (i + 1)) N = dropSh (pg.sh.take i) N ++ [(A', p')] := by
              unfold dropSh
              rw [et, List.filter_append, List.filter_cons, decide_eq_true z]
              rfl
            rw [ed]
            exact put_new hrel ⟨a2, rfl, hn2⟩ fun q hq => take_ne hg.nd hs' (List.mem_filter.mp hq).1
      · refine .inl ⟨⟨hk _ _ nD hnf, by omega⟩, hk _ _ nD hnf, ?_⟩
        have ei : i = pg.sh.length := by omega
        rw [ei, List.take_length] at hrel
        have bD : b ≠ D := ne_of_none (bf _ _ bnd h1) hD
        have S6 : Same H (upd H' nd (.dK kvs)) := fun c' o ho => by
          by_cases z : c' = nd
          · rw [z, upd_same, ← ho, z, hd]
          · rw [upd_ne z]
            exact hk _ _ (ne_of_none (bf _ _ z ho) hD) (bf _ _ z ho)
        refine ⟨_, rfl, b, C, dx, _, _, rfl, S6 _ _ h1, BK.cls, BK.nM, lM, b, D, md, pg, past, ⟨dropSh pg.sh N, pg.ws⟩, rfl, hb.on S6, ⟨⟨acc, by rw [upd_ne (Ne.symm nD)]; exact hacc, hrel.imp fun p v ⟨a, e, n⟩ => ⟨a, e, n.on S6⟩⟩, h2.2.td (.of S6)⟩, hpl, fun H5 B5 hb5 => ?_⟩
        exact k _ (fun c' o hc ho => B5 c' o hc (S6 c' o ho)) hb5
  · rw [behind] at k
    cases e : look pg.sh N with
    | none => rw [e] at k; exact k
    | some p => rw [e] at hs; cases hs
end
end Pp
-- D4
namespace Pp
open PySem PySem.Spec PyProof.Rows L2
def DeedOk : Deed → Prop
  | .put A p => Title A ∧ PlanOk p
  | .drop A => Title A
  | .wish w => WiOk w
  | .lift i => i < 10000
theorem three {l : List Str} (hn : l.Nodup) (ht : ∀ x ∈ l, Title x) : l.length ≤ 3 := by
  match l, hn, ht with
  | [], _, _ => exact Nat.zero_le _
  | [_], _, _ => exact (by decide : 1 ≤ 3)
  | [_, _], _, _ => exact (by decide : 2 ≤ 3)
  | [_, _, _], _, _ => exact (by decide : 3 ≤ 3)
  | x :: y :: z :: t :: r, hn, ht =>
    exfalso
    have h1 := ht x (by simp)
    have h2 := ht y (by simp)
    have h3 := ht z (by simp)
    have h4 := ht t (by simp)
    simp only [List.nodup_cons, List.mem_cons, not_or] at hn
    obtain ⟨⟨a1, a2, a3, _⟩, ⟨b1, b2, _⟩, ⟨c1, _⟩, _⟩ := hn
    rcases h1 with rfl | rfl | rfl <;> rcases h2 with rfl | rfl | rfl <;> rcases h3 with rfl | rfl | rfl <;> rcases h4 with rfl | rfl | rfl <;> simp_all
theorem PgOk.three {pg : Page} (h : PgOk pg) : pg.sh.length ≤ 3 := by
  have := Pp.three h.nd (fun x hx => by
    obtain ⟨q, hq, rfl⟩ := List.mem_map.mp hx
    exact h.ti q hq)
  rwa [List.length_map] at this
abbrev s_Book_do : Stmt := inClass (top 55) 15
theorem sc_Book_do : FnScope ["self", "deed"] ["self", "deed"] (defScope s_Book_do) := ⟨rfl, rfl, rfl, by decide +kernel, rfl, by decide +kernel, by decide +kernel⟩
abbrev N_Book_do : List Str := ["self", "deed"]
def spDo (C : Addr) (mg : Str → Option Value) : Sp := fun vs H Q E => ∃ b v d pg past, vs = [.ref b, v] ∧ DeedAt H v d ∧ DeedOk d ∧ BookAt C H b pg past ∧ PgOk pg ∧ past.length < 10000 ∧ Step C mg H Q E b pg past (behind pg d)
section
variable {P : Program} {w : World} {K : PySem.W.Frag} {mg : Str → Option Value} {base : Heap} {C : Addr}
theorem d_do (F : AtM K C "do" "Book.do" s_Book_do) (BK : BkT K mg C) (D_m___setitem__ : Mn P w K mg base (L2N.CX P w) 11 C "__setitem__" ["self", "name", "number"] (spSet C mg)) (D_m_wish : Mn P w K mg base (L2N.CX P w) 11 C "wish" ["self", "wish"] (spWish C mg))
    (D_m_lift : Mn P w K mg base (L2N.CX P w) 3 C "lift" ["self", "index"] (spLift C mg)) (D_m_drop : Mn P w K mg base (L2N.CX P w) 3 C "drop" ["self", "name"] (spDrop C mg)) : Mn P w K mg base (L2N.CX P w) 12 C "do" ["self", "deed"] (spDo C mg) := by
  refine F.okX sc_Book_do (fun vs H Q E h => ?_) (fun _ _ _ _ _ _ us hl => match us, hl with | [_, _], _ => rfl) (fun f cdv A outer s H vs Q E hr h => ?_)
  · obtain ⟨_, _, _, _, _, rfl, _⟩ := h
    rfl
  obtain ⟨b, v, d, pg, past, rfl, hd, ho, hb, hg, hpl, k⟩ := h
  refine ⟨_, (pss_one (ps_if (pt_cmpR op_eq (pe_ix (r := rIxT K) ix_tup (pv 1) pe_int (fun _ _ => rfl)) pe_str (nomark _)) (pss_one (ps_asg (pe_ix (r := rIxT K) ix_tup (pv 1) pe_int (fun _ _ => rfl)) (pg_sub (pv 0) (pe_ix (r := rIxT K) ix_tup (pv 1) pe_int (fun _ _ => rfl)) (set_own D_m___setitem__ BK.ns hr (by decide) (L2N.passes_call (L2N.takes_of rfl rfl rfl rfl) (fun _ _ _ _ h => h)))))) (pss_one (ps_if (pt_cmpR op_eq (pe_ix (r := rIxT K) ix_tup (pv 1) pe_int (fun _ _ => rfl)) pe_str (nomark _)) (pss_one (ps_expr (pe_mn D_m_drop BK.cls hr (by decide) (L2N.passes_call (L2N.takes_of rfl rfl rfl rfl) (fun _ _ _ _ h => h)) (pv 0) (pa_cons (pe_ix (r := rIxT K) ix_tup (pv 1) pe_int (fun _ _ => rfl)) pa_nil)))) (pss_one (ps_if (pt_cmpR op_eq (pe_ix (r := rIxT K) ix_tup (pv 1) pe_int (fun _ _ => rfl)) pe_str (nomark _)) (pss_one (ps_expr (pe_mn D_m_wish BK.cls hr (by decide) (L2N.passes_call (L2N.takes_of rfl rfl rfl rfl) (fun _ _ _ _ h => h)) (pv 0) (pa_cons (pe_ix (r := rIxT K) ix_tup (pv 1) pe_int (fun _ _ => rfl)) pa_nil)))) (pss_one (ps_expr (pe_mn D_m_lift BK.cls hr (by decide) (L2N.passes_call (L2N.takes_of rfl rfl rfl rfl) (fun _ _ _ _ h => h)) (pv 0) (pa_cons (pe_ix (r := rIxT K) ix_tup (pv 1) pe_int (fun _ _ => rfl)) pa_nil)))))))))), ?_⟩
  have sl : pg.sh.length < 10000 := Nat.lt_of_le_of_lt hg.three (by decide)
  obtain ⟨nd, md, pd, ⟨dx, h1⟩, h2, h3⟩ := id hb
  cases d with
  | put A p =>
    obtain ⟨x, a, rfl, hx, ha⟩ := hd
    obtain ⟨o1, o2⟩ := ho
    refine ⟨_, rfl, x, _, 0, _, rfl, rfl, SqT.of hx, rfl, rfl, _, rfl, ?_⟩
    rw [show decide (V.str "put" = V.str "put") = true by decide +kernel]
    refine iteT ?_
    refine ⟨_, rfl, x, _, 2, _, rfl, rfl, SqT.of hx, rfl, ?_⟩
    refine ⟨_, rfl, _, rfl, x, _, 1, _, rfl, rfl, SqT.of hx, rfl, ?_⟩
    exact ⟨b, dx, _, rfl, h1, b, A, a, p, pg, past, rfl, o1, ha, o2, hb, hg, sl, hpl, k⟩
  | drop A =>
    obtain ⟨x, rfl, hx⟩ := hd
    refine ⟨_, rfl, x, _, 0, _, rfl, rfl, SqT.of hx, rfl, rfl, _, rfl, ?_⟩
    rw [show decide (V.str "drop" = V.str "put") = false by decide +kernel]
    refine iteF ⟨_, rfl, x, _, 0, _, rfl, rfl, SqT.of hx, rfl, rfl, _, rfl, ?_⟩
    rw [show decide (V.str "drop" = V.str "drop") = true by decide +kernel]
    refine iteT ?_
    refine ⟨_, rfl, b, dx, _, rfl, h1, rfl, _, rfl, x, _, 1, _, rfl, rfl, SqT.of hx, rfl, ?_⟩
    exact ⟨b, A, pg, past, rfl, hb, hg, sl, hpl, k⟩
  | wish wi =>
    obtain ⟨x, y, rfl, hx, hy⟩ := hd
    refine ⟨_, rfl, x, _, 0, _, rfl, rfl, SqT.of hx, rfl, rfl, _, rfl, ?_⟩
    rw [show decide (V.str "wish" = V.str "put") = false by decide +kernel]
    refine iteF ⟨_, rfl, x, _, 0, _, rfl, rfl, SqT.of hx, rfl, rfl, _, rfl, ?_⟩
    rw [show decide (V.str "wish" = V.str "drop") = false by decide +kernel]
    refine iteF ⟨_, rfl, x, _, 0, _, rfl, rfl, SqT.of hx, rfl, rfl, _, rfl, ?_⟩
    rw [show decide (V.str "wish" = V.str "wish") = true by decide +kernel]
    refine iteT ?_
    refine ⟨_, rfl, b, dx, _, rfl, h1, rfl, _, rfl, x, _, 1, _, rfl, rfl, SqT.of hx, rfl, ?_⟩
    exact ⟨b, y, wi, pg, past, rfl, hy, ho, hb, hg, hpl, k⟩
  | lift i =>
    obtain ⟨x, rfl, hx⟩ := hd
    refine ⟨_, rfl, x, _, 0, _, rfl, rfl, SqT.of hx, rfl, rfl, _, rfl, ?_⟩
    rw [show decide (V.str "lift" = V.str "put") = false by decide +kernel]
    refine iteF ⟨_, rfl, x, _, 0, _, rfl, rfl, SqT.of hx, rfl, rfl, _, rfl, ?_⟩
    rw [show decide (V.str "lift" = V.str "drop") = false by decide +kernel]
    refine iteF ⟨_, rfl, x, _, 0, _, rfl, rfl, SqT.of hx, rfl, rfl, _, rfl, ?_⟩
    rw [show decide (V.str "lift" = V.str "wish") = false by decide +kernel]
    refine iteF ?_
    refine ⟨_, rfl, b, dx, _, rfl, h1, rfl, _, rfl, x, _, 1, _, rfl, rfl, SqT.of hx, rfl, ?_⟩
    exact ⟨b, i, pg, past, rfl, hb, hg, hpl, k⟩
end
end Pp
-- M2
/-! pages and deeds, plainly -/
namespace Pp
open PySem PySem.Spec PyProof.Rows L2
theorem look_drop {A B : Str} (h : B ≠ A) : ∀ sh : Shelf, look (dropSh sh A) B = look sh B
  | [] => rfl
  | (x, p) :: sh => by
    have ih := look_drop h sh
    unfold dropSh look at ih ⊢
    by_cases e : x = A
    · subst e
      rw [List.filter_cons, decide_eq_false (fun z => z rfl), if_neg (by decide), ih, List.find?_cons, decide_eq_false (Ne.symm h)]
    · rw [List.filter_cons, decide_eq_true e, if_pos rfl, List.find?_cons, List.find?_cons]
      by_cases e2 : x = B
      · rw [decide_eq_true e2]
      · rw [decide_eq_false e2]
        exact ih
theorem holds_drop {sh : Shelf} {A : Str} {w : Wi} (h : A ∉ w.names) : holdsW (dropSh sh A) w = holdsW sh w := by
  cases w with
  | spl b B n =>
    have h1 : B ≠ A := fun z => h (by rw [z]; simp [Wi.names])
    simp only [holdsW, look_drop h1]
  | alw B =>
    have h1 : B ≠ A := fun z => h (by rw [z]; simp [Wi.names])
    simp only [holdsW, look_drop h1]
  | alike B B' =>
    have h1 : B ≠ A := fun z => h (by rw [z]; simp [Wi.names])
    have h2 : B' ≠ A := fun z => h (by rw [z]; simp [Wi.names])
    simp only [holdsW, look_drop h1, look_drop h2]
theorem bad_none {sh : Shelf} {ws : List Wi} (h : badAt sh ws = none) : ∀ w ∈ ws, holdsW sh w = true := by
  unfold badAt at h
  rw [List.findIdx?_eq_none_iff] at h
  intro w hw
  have := h w hw
  simpa using this
theorem use_none {A : Str} {ws : List Wi} (h : useAt A ws = none) : ∀ w ∈ ws, A ∉ w.names := by
  unfold useAt at h
  rw [List.findIdx?_eq_none_iff] at h
  intro w hw
  have := h w hw
  simpa using this
theorem put_names {sh : Shelf} {A : Str} {p : Plan} : ((putSh sh A p).map (·.1)) = if A ∈ sh.map (·.1) then sh.map (·.1) else sh.map (·.1) ++ [A] := by
  unfold putSh
  by_cases h : (sh.any fun q => decide (q.1 = A)) = true
  · rw [if_pos h]
    have hm : A ∈ sh.map (·.1) := by
      rw [List.any_eq_true] at h
      obtain ⟨q, hq, e⟩ := h
      exact List.mem_map.mpr ⟨q, hq, by simpa using e⟩
    rw [if_pos hm, List.map_map]
    apply List.map_congr_left
    intro q _
    show (if q.1 = A then (q.1, p) else q).1 = q.1
    split <;> rfl
  · rw [if_neg h]
    have hm : A ∉ sh.map (·.1) := fun hm => by
      obtain ⟨q, hq, e⟩ := List.mem_map.mp hm
      exact h (List.any_eq_true.mpr ⟨q, hq, by simpa using e⟩)
    rw [if_neg hm, List.map_append]
    rfl
theorem behind_ok {pg pg' : Page} {d : Deed} (h : PgOk pg) (hd : DeedOk d) (hl : pg.ws.length + 1 < 10000) (e : behind pg d = .inr pg') : PgOk pg' ∧ pg'.ws.length ≤ pg.ws.length + 1 := by
  cases d with
  | put A p =>
    obtain ⟨hA, hp⟩ := hd
    rw [behind] at e
    cases eb : badAt (putSh pg.sh A p) pg.ws with
    | some i => rw [eb] at e; cases e
    | none =>
      rw [eb] at e
      cases e
      refine ⟨⟨h.sh.put hp, fun q hq => ?_, ?_, h.ws, bad_none eb, h.len⟩, Nat.le_succ _⟩
      · have hm : q.1 ∈ (putSh pg.sh A p).map (·.1) := List.mem_map.mpr ⟨q, hq, rfl⟩
        rw [put_names] at hm
        split at hm
        · obtain ⟨r, hr, er⟩ := List.mem_map.mp hm
          rw [← er]
          exact h.ti r hr
        · rcases List.mem_append.mp hm with hm | hm
          · obtain ⟨r, hr, er⟩ := List.mem_map.mp hm
            rw [← er]
            exact h.ti r hr
          · have : q.1 = A := by simpa using hm
            rw [this]
            exact hA
      · show ((putSh pg.sh A p).map (·.1)).Nodup
        rw [put_names]
        split
        · exact h.nd
        · rename_i hn
          rw [List.nodup_append]
          refine ⟨h.nd, by simp, fun a ha b hb => ?_⟩
          have : b = A := by simpa using hb
          rw [this]
          exact fun z => hn (by rw [← z]; exact ha)
  | drop A =>
    rw [behind] at e
    cases el : look pg.sh A with
    | none => rw [el] at e; cases e
    | some p0 =>
      rw [el] at e
      cases eb : useAt A pg.ws with
      | some i => simp only [eb] at e; cases e
      | none =>
        simp only [eb] at e
        cases e
        have hu := use_none eb
        refine ⟨⟨fun q hq => h.sh q (List.mem_filter.mp hq).1, fun q hq => h.ti q (List.mem_filter.mp hq).1, ?_, h.ws, fun w hw => ?_, h.len⟩, Nat.le_succ _⟩
        · exact List.Nodup.sublist ((List.filter_sublist (l := pg.sh)).map _) h.nd
        · show holdsW (dropSh pg.sh A) w = true
          rw [holds_drop (hu w hw)]
          exact h.ho w hw
  | wish w =>
    rw [behind] at e
    by_cases c : holdsW pg.sh w = true
    · rw [if_pos c] at e
      cases e
      refine ⟨⟨h.sh, h.ti, h.nd, fun v hv => ?_, fun v hv => ?_, ?_⟩, ?_⟩
      · rcases List.mem_append.mp hv with hv | hv
        · exact h.ws v hv
        · have : v = w := by simpa using hv
          rw [this]; exact hd
      · rcases List.mem_append.mp hv with hv | hv
        · exact h.ho v hv
        · have : v = w := by simpa using hv
          rw [this]; exact c
      · show (pg.ws ++ [w]).length < 10000
        rw [List.length_append]
        exact hl
      · show (pg.ws ++ [w]).length ≤ _
        rw [List.length_append]
        exact Nat.le_refl _
    · rw [if_neg c] at e; cases e
  | lift i =>
    rw [behind] at e
    by_cases c : i < pg.ws.length
    · rw [if_pos c] at e
      cases e
      have hm : ∀ v, v ∈ pg.ws.take i ++ pg.ws.drop (i + 1) → v ∈ pg.ws := fun v hv => by
        rcases List.mem_append.mp hv with hv | hv
        · exact List.mem_of_mem_take hv
        · exact List.mem_of_mem_drop hv
      have hn : (pg.ws.take i ++ pg.ws.drop (i + 1)).length ≤ pg.ws.length := by
        rw [List.length_append, List.length_take, List.length_drop]
        omega
      exact ⟨⟨h.sh, h.ti, h.nd, fun v hv => h.ws v (hm v hv), fun v hv => h.ho v (hm v hv), Nat.lt_of_le_of_lt hn h.len⟩, Nat.le_succ_of_le hn⟩
    · rw [if_neg c] at e; cases e
end Pp
-- E1
/-! try .. finally, the suite told that the handled exception's context is None (the library's L2.fin_exc and the worked proof 43 turned to L2N); a tuple unpacked there -/
namespace Pp
open PySem PySem.Spec PyProof.Rows L2
/-- try: body / finally: suite. tb W: the body's reading, W what is wished of its errors; tf: the suite behind a body that ran through; tfs: the suite with the error in flight -/
def tFinN (tb : WX → TS) (tf tfs : TS) (Wout : WX) : TS := fun D σ H => tb (wFin tfs Wout) { nx := fun σ1 H1 => tf D σ1 H1, rt := fun _ _ => False } σ H
section
variable {X : Cx} {body : List Stmt} {f₀ : Stmt} {fs : List Stmt} {pos : Pos} {tb : WX → TS} {tf tfs : TS} {Wout : WX}
theorem fin_excN {pins : List (Addr × Obj)} {D : Ends} {u : Value} {s' : Shared} (hs : X.stack = X.env :: X.outer) (hf : X.env.frame = some X.env.locals) (hex : X.ex = []) (ok : X.Ok) (tk : L2N.Takes X Wout)
    (hsu : ∀ (a : Addr) (oe : Obj) (cls : Value) (d : Option Addr) (pn : List (Addr × Obj)), L2N.Zn cls d oe → (∃ vs, oe.data = .fields vs) → PSs (X.suite a ((a, oe) :: pn)) (f₀ :: fs) tfs) (xx : L2N.XE (X.tr (X.pn ++ pins) (fun x s₁ => wpAny (model X.prog X.w) X.A (noteFrame x X.env) (fun _ s₂ => FinallyRaised X.prog X.w X.A X.xe X.env (f₀ :: fs) (SP X pins D) x s₂) (FinallyRaised X.prog X.w X.A X.xe X.env (f₀ :: fs) (SP X pins D)) s₁)) (wFin tfs Wout) u s') :
    wpAny (model X.prog X.w) X.A (noteFrame u X.env) (fun _ s₂ => FinallyRaised X.prog X.w X.A X.xe X.env (f₀ :: fs) (SP X pins D) u s₂) (FinallyRaised X.prog X.w X.A X.xe X.env (f₀ :: fs) (SP X pins D)) s' := by
  have hfr : X.A.frames = some (X.env :: X.outer) := by rw [ok.frames, hs]
  obtain ⟨a, B, sI, pins', σ', H', cls, d, rfl, J', nb, up, sky, na, os, ag, hw⟩ := xx
  have J : Inv X pins σ' H' sI := J'.ofTry ok
  have sky' : Sky B (X.env :: X.outer) a (L2N.Zn cls d) X.env.locals s'.heap := by rw [← hs]; exact sky
  -- behind the first note
  have fin : ∀ h1, HandSPX.HeldZ B (X.env :: X.outer) a (L2N.Zn cls d) X.env.locals h1 → s'.heap.UpToSlots h1 → FinallyRaised X.prog X.w X.A X.xe X.env (f₀ :: fs) (SP X pins D) (.ref a) { s' with heap := h1 } := fun h1 hh1 up1 => by
    refine ⟨ref_ne_byPass a, HandSPX.againZ hf hh1.2.2.2 (HandSPX.landsZ hh1 fun h3 fl3 up3 => ?_)⟩
    have J3 : Inv X pins σ' H' { s' with heap := h3 } := J.landed nb fl3.1 ((up.trans up1).trans up3) os ag
    obtain ⟨k1, k2, k3, oe, vs, T, oT, ts, he3, hz, hd, hv1, hnT, hTe, hT, hdT, ht3⟩ := id fl3
    have nT : H' T = none := (J.inGround nb).gone hnT
    have notFr : ∀ (b : Addr) (o : Obj) (fv : Array Value), h3.get? b = some o → o.data = .fields fv → b ∉ frs (X.env :: X.outer) := fun b o fv e dd hm => by
      obtain ⟨_, o', e', hnf⟩ := k3.mem hm
      have eo : o = o' := Option.some.inj (e.symm.trans e')
      rw [← eo] at hnf
      exact hnf _ dd
    have locF : X.env.locals ∈ frs (X.env :: X.outer) := List.mem_filterMap.mpr ⟨X.env, List.mem_cons_self, hf⟩
    have fsF : ∀ b, b ∈ X.fs → b ∈ frs (X.env :: X.outer) := fun b hm => by
      obtain ⟨e, he, q⟩ := List.mem_filterMap.mp hm
      exact List.mem_filterMap.mpr ⟨e, List.mem_cons_of_mem _ he, q⟩
    have fa := notFr a oe vs he3 hd
    have fT := notFr T oT ts hT hdT
    have S3 : Inv (X.suite a ((a, oe) :: (T, oT) :: (X.pn ++ pins))) [] σ' H' { s' with heap := h3 } :=
      ⟨J3.ok.suite _ _, J3.os, J3.bare, J3.base, J3.loc, J3.cell, J3.free, J3.freeC, fun p hp => by
        rw [List.append_nil] at hp
        rcases List.mem_cons.mp hp with z | hp
        · rw [z]
          exact ⟨he3, na, fun z2 => fa (by rw [show a = X.env.locals from z2]; exact locF), fun z2 => fa (fsF _ z2), fun v z2 => by
            have z3 : oe.data = .cell v := z2
            rw [hd] at z3
            cases z3⟩
        · rcases List.mem_cons.mp hp with z | hp
          · rw [z]
            exact ⟨hT, nT, fun z2 => fT (by rw [show T = X.env.locals from z2]; exact locF), fun z2 => fT (fsF _ z2), fun v z2 => by
              have z3 : oT.data = .cell v := z2
              rw [hdT] at z3
              cases z3⟩
          · exact J3.pin p hp, J3.hok, J3.len⟩
    refine wpAny_mono ((hsu a oe cls d ((T, oT) :: (X.pn ++ pins)) hz ⟨vs, hd⟩).run [] { s' with heap := h3 } σ' H' { nx := fun σ2 H2 => Wout cls d σ2 H2, rt := fun _ _ => False } S3 hw) (fun g s6 hsp => ?_) fun _ _ z => False.elim z
    cases g with
    | ret u =>
      obtain ⟨_, _, _, _, _, q⟩ := hsp
      exact False.elim q
    | brk =>
      obtain ⟨_, _, _, q⟩ := hsp
      exact False.elim q
    | cont =>
      obtain ⟨_, _, _, q⟩ := hsp
      exact False.elim q
    | next =>
      obtain ⟨σ6, H6, S6, q6⟩ := hsp
      have J6 : Inv X pins σ6 H6 s6 := ⟨ok, S6.os, S6.bare, S6.base, S6.loc, S6.cell, S6.free, S6.freeC, fun p hp => S6.pin p (List.mem_append_left _ (List.mem_cons_of_mem _ (List.mem_cons_of_mem _ hp))), S6.hok, S6.len⟩
      have pa := S6.pin (a, oe) (List.mem_append_left _ List.mem_cons_self)
      have pT := S6.pin (T, oT) (List.mem_append_left _ (List.mem_cons_of_mem _ List.mem_cons_self))
      have ga : s6.heap.get? a = some oe := pa.1
      have gT : s6.heap.get? T = some oT := pT.1
      have na6 : H6 a = none := pa.2.1
      have nT6 : H6 T = none := pT.2.1
      -- what is not the exception's
      have far : ∀ b o, sI.heap.get? b = some o → b ≠ a ∧ b ≠ T := fun b o e => by
        by_cases hb : b ∈ frs X.stack
        · rw [hs] at hb
          exact ⟨fun z => fa (by rw [← z]; exact hb), fun z => fT (by rw [← z]; exact hb)⟩
        · have q := nb b o e hb
          exact ⟨fun z => by
            rw [z, k2] at q
            exact (nomatch q), fun z => by
            rw [z, hnT] at q
            cases q⟩
      have far0 : ∀ b o, X.s_0.heap.get? b = some o → b ≠ a ∧ b ≠ T := fun b o e => by
        obtain ⟨o', q⟩ := J.base.there b o e (by rw [hex]; simp)
        exact far b o' q
      have farP : ∀ p ∈ X.pn ++ pins, p.1 ≠ a ∧ p.1 ≠ T := fun p hp => far p.1 p.2 (J.pin p hp).1
      obtain ⟨G, g1, g2⟩ := restrict s6.heap fun b => !(decide (b = a) || decide (b = T))
      have gIn : ∀ b o, G.get? b = some o → s6.heap.get? b = some o ∧ b ≠ a ∧ b ≠ T := fun b o e => by
        cases q : (!(decide (b = a) || decide (b = T))) with
        | false =>
          rw [g2 b q] at e
          cases e
        | true =>
          rw [g1 b q] at e
          simp only [Bool.not_eq_true', Bool.or_eq_false_iff, decide_eq_false_iff_not] at q
          exact ⟨e, q.1, q.2⟩
      have gOf : ∀ b o, b ≠ a → b ≠ T → s6.heap.get? b = some o → G.get? b = some o := fun b o h1 h2 e => by
        rw [g1 b (by simp [h1, h2])]
        exact e
      have I6 : Inv X pins σ6 H6 { s6 with heap := G } := J6.less (fun b o e => (gIn b o e).1) gOf ⟨oe, vs, ga, hd⟩ ⟨oT, ts, gT, hdT⟩ na6 nT6 far0 farP
      -- the ground behind the suite
      have B6in : ∀ b o, (PySem.W.hideAll G (frs X.stack)).get? b = some o → s6.heap.get? b = some o := fun b o e => (gIn b o (PySem.W.of_hideAll _ e)).1
      have Bno : ∀ b, (b = a ∨ b = T) → (PySem.W.hideAll G (frs X.stack)).get? b = none := fun b hb => by
        cases q : (PySem.W.hideAll G (frs X.stack)).get? b with
        | none => rfl
        | some o =>
          obtain ⟨_, n1, n2⟩ := gIn b o (PySem.W.of_hideAll _ q)
          rcases hb with z | z
          · exact absurd z n1
          · exact absurd z n2
      have fl6 : HandSPX.FlyingZ (PySem.W.hideAll G (frs X.stack)) (X.env :: X.outer) a (L2N.Zn cls d) s6.heap := by
        refine ⟨B6in, Bno a (.inl rfl), ?_, oe, vs, T, oT, ts, ga, hz, hd, hv1, Bno T (.inr rfl), hTe, gT, hdT, ht3⟩
        have ff := funFrames_none (B := PySem.W.hideAll G (frs X.stack)) J6.stack fun b hb => PySem.W.hideAll_none _ hb
        rw [← hs]
        exact ff
      show wpAny (model X.prog X.w) X.A (PySem.passOn "try.finally" (.ref a) X.env) (SP X pins D) X.xe s6
      unfold PySem.passOn
      refine wpAny_bind (wpAny_field ga hd hv1 ?_)
      rw [if_neg (show ¬ ((Value.ref T == Value.none) = true) from by simp)]
      have goOn : wpAny (model X.prog X.w) X.A (setFlight (.ref a) X.env.frame) (fun _ s7 => wpAny (model X.prog X.w) X.A (throw (.ref a) : Sem Flow) (SP X pins D) X.xe s7) X.xe s6 := by
        rw [hf]
        refine HandSPX.setFlight_upZ fl6 fun h7 hh7 up7 => wpAny_throw (tk _ _ ?_)
        refine ⟨a, PySem.W.hideAll G (frs X.stack), { s6 with heap := G }, pins, σ6, H6, cls, d, rfl, I6, fun b o e hb => PySem.W.hideAll_get _ e hb, ?_, .inr (.inr (by rw [← hs] at hh7; exact hh7)), na6, rfl, J6.bare, q6⟩
        exact Heap.UpToSlots.trans (Heap.UpToSlots.of_keeps fun b o e => (gIn b o e).1) up7
      first
        | exact wpAny_bind (wpAny_pure (wpAny_bind goOn))
        | exact wpAny_bind goOn
  show wpAny (model X.prog X.w) X.A (noteFrame (.ref a) X.env) _ _ _
  rcases sky' with ⟨hB, hn, hl, oe, vs, he0, hz, hd, hv1⟩ | fl | hh
  · exact PXN.look_newZ L2N.Zn.steady hfr hl hf he0 hB hn hd hv1 hz fin
  · exact PXN.looks_onZ L2N.Zn.steady hfr hf fl fin
  · exact HandSPX.againZ hf hh.2.2.2 (fin s'.heap hh (Heap.UpToSlots.refl _))
theorem ps_finN (hs : X.stack = X.env :: X.outer) (hf : X.env.frame = some X.env.locals) (hex : X.ex = []) (tk : L2N.Takes X Wout)
    (hb : ∀ (W : WX) (pn : List (Addr × Obj)) (xe : Value → Shared → Prop), L2N.Takes (X.tr pn xe) W → PassesOwn (model X.prog X.w) X.A X.env xe → PSs (X.tr pn xe) body (tb W))
    (hfin : PSs X.nox (f₀ :: fs) tf) (hsu : ∀ (a : Addr) (oe : Obj) (cls : Value) (d : Option Addr) (pn : List (Addr × Obj)), L2N.Zn cls d oe → (∃ vs, oe.data = .fields vs) → PSs (X.suite a ((a, oe) :: pn)) (f₀ :: fs) tfs) : PS X (.Try body [] [] (f₀ :: fs) pos) (tFinN tb tf tfs Wout) := by
  refine ⟨fun pins s σ H D I h => ?_⟩
  have ok := I.ok
  refine wpAny_Try_finally ?_
  refine wpAny_mono ((hb (wFin tfs Wout) (X.pn ++ pins) (fun x s₁ => wpAny (model X.prog X.w) X.A (noteFrame x X.env) (fun _ s₂ => FinallyRaised X.prog X.w X.A X.xe X.env (f₀ :: fs) (SP X pins D) x s₂) (FinallyRaised X.prog X.w X.A X.xe X.env (f₀ :: fs) (SP X pins D)) s₁)
    (fun u s' xx => ?_) PassesOwn.looking).run [] s σ H { nx := fun σ1 H1 => tf D σ1 H1, rt := fun _ _ => False } (I.toTry _) h) (fun g s1 z => ?_) (fun x s1 hx => hx)
  · exact fin_excN hs hf hex ok tk hsu xx
  · cases g with
    | ret u =>
      obtain ⟨_, _, _, _, _, q⟩ := z
      exact False.elim q
    | brk =>
      obtain ⟨_, _, _, q⟩ := z
      exact False.elim q
    | cont =>
      obtain ⟨_, _, _, q⟩ := z
      exact False.elim q
    | next =>
      obtain ⟨σ1, H1, J1, q1⟩ := z
      refine wpAny_execs_nil ?_
      refine wpAny_mono (hfin.run pins s1 σ1 H1 D ((J1.ofTry ok).wish _) q1) (fun g2 s2 q2 => ?_) fun _ _ e => False.elim e
      have q3 : SP X pins D g2 s2 := q2.unwish
      cases g2 <;> exact q3
end
section
variable {prog : Program} {w : World} {A : Around} {E : Value → Shared → Prop} {s : Shared}
open HotX
theorem next_tup_hot {it t x1 : Addr} {i : Nat} {items : Array Value} {Q : Option Value → Shared → Prop} (hot : HotAt A x1 s.heap) (hit : IsTupIter s.heap it t i) (ht : IsTup s.heap t items) (hx : items[i]? = none) (hne : x1 ≠ it)
    (hQ : ∀ h', Heap.ExtBut it s.heap h' → Q none { s with heap := h' }) : wpAny (model prog w) A (pyNext (.ref it)) Q E s := by
  obtain ⟨o, ho, hc, hd⟩ := id hit
  obtain ⟨ol, hol, _, nl, hdl⟩ := ht
  obtain ⟨hh, o1, vs1, h1, d1, c1⟩ := hot
  unfold pyNext
  refine wpAny_bind (wpAny_attempt (wpAny_callSpecial?_slot (name := Str.ofString "__next__") hit.typeIs slot_tupleiter_next
    (wpAny_call_entry slot_tupleiter_next hit.typeIs entry_tupleiter_next ?_ (args_tupleiter_next _))))
  show wpAny _ _ (field (.ref it) 0 >>= _) _ _ s
  refine wpAny_bind (wpAny_field ho hd (x := .ref t) rfl ?_)
  show wpAny _ _ (if (Value.ref t == Value.none) = true then _ else _) _ _ s
  rw [if_neg (show ¬ ((Value.ref t == Value.none) = true) from Bool.false_ne_true)]
  show wpAny _ _ (field (.ref it) 1 >>= _) _ _ s
  refine wpAny_bind (wpAny_field ho hd (x := .int i 0) rfl ?_)
  show wpAny _ _ (seqItems? (.ref t) >>= _) _ _ s
  refine wpAny_bind (wpAny_seqItems hol hdl ?_)
  simp only [Int.toNat_natCast, hx]
  refine wpAny_bind (wpAny_rule (wpAny_bind (wpAny_setField ho hd (by simp) ?_)))
  show wpAny _ _ (newExc (.type "StopIteration") [] >>= _) _ _ _
  refine wpAny_bind ?_
  simp only [newExc, newTuple]
  refine wpAny_bind (wpAny_newObj_type ?_ (by size_fits))
  refine wpAny_bind (m := firstArgMember _ _) (wpAny_of_eq (a := Value.none) (by first | rfl | (simp only [firstArgMember]; rfl)) ?_)
  refine wpAny_newObj_type ?_ (by size_fits)
  have h1' : (s.heap.update it (Obj.mapFields fun x => x.setIfInBounds 0 Value.none)).get? x1 = some o1 := (Heap.get?_update_other _ _ (Ne.symm hne)).trans h1
  refine raiseNew_hot ⟨hh, o1, vs1, Heap.get?_push_of_some _ (Heap.get?_push_of_some _ h1'), d1, c1⟩ (Nat.ne_of_lt (Heap.lt_size (Heap.get?_push_of_some _ h1'))) (Heap.get?_push_size _ rfl) rfl (by first | (simp; done) | (simp; omega) | (simp only [Array.size_append]; simp; omega)) ?_
  refine wpAny_bind (wpAny_isInstance (T := "StopIteration") (b := true) ⟨_, Heap.get?_update_self _ (Heap.get?_push_size _ rfl) rfl, rfl⟩ isSubtype_stop ?_)
  refine wpAny_pure (hQ _ fun b o hb e => ?_)
  have e' : (s.heap.update it (Obj.mapFields fun x => x.setIfInBounds 0 Value.none)).get? b = some o := (Heap.get?_update_other _ _ (Ne.symm hb)).trans e
  rw [Heap.get?_update_other _ _ (Nat.ne_of_gt (Heap.lt_size (Heap.get?_push_of_some _ e')))]
  exact Heap.get?_push_of_some _ (Heap.get?_push_of_some _ e')
theorem unpack_hot {t x1 : Addr} {items : Array Value} {Q : List Value → Shared → Prop} (hot : HotAt A x1 s.heap) (ht : IsTup s.heap t items)
    (hQ : ∀ h', Heap.ExtBut s.heap.objs.size s.heap h' → Q items.toList { s with heap := h' }) : wpAny (model prog w) A (unpackItems (.ref t) items.size none) Q E s := by
  have hlt : t ≠ s.heap.objs.size := by obtain ⟨o, ho, _⟩ := ht; exact Nat.ne_of_lt (Heap.lt_size ho)
  obtain ⟨hh, o1, vs1, h1, d1, c1⟩ := hot
  have hlx : x1 ≠ s.heap.objs.size := Nat.ne_of_lt (Heap.lt_size h1)
  unfold unpackItems
  refine wpAny_bind ?_
  · unfold notIterableAtAll
    refine wpAny_bind (wpAny_specialOf ht.typeIs slot_tuple_iter.lookup ?_)
    refine wpAny_pure ?_
    simp only [Bool.false_eq_true, if_false]
    refine wpAny_bind (wpAny_holding (iter_tuple ht ?_))
    refine wpAny_bind (wpAny_holding (draw_tuple hlt items.size 0 _ _ ⟨_, Heap.get?_push_size _ rfl, rfl, rfl⟩ (ht.push _) (by omega) fun h₁ hit₁ hs₁ => ?_))
    have hall : List.take items.size (List.drop 0 items.toList) = items.toList := by
      rw [List.drop_zero]; exact List.take_of_length_le (by simp)
    rw [hall]
    rw [if_neg (by simp)]
    have ht₁ : IsTup h₁ t items := (ht.push _).extBut hs₁.extBut hlt
    refine wpAny_bind (wpAny_holding (next_tup_hot (x1 := x1) ⟨hh, o1, vs1, hs₁.extBut x1 o1 hlx (Heap.get?_push_of_some _ h1), d1, c1⟩ hit₁ ht₁ (by simp) hlx fun h₂ he₂ => ?_))
    simp only [Option.isSome_none, Bool.false_eq_true, if_false]
    refine wpAny_pure (hQ h₂ fun b o hb e => he₂ b o hb (hs₁.extBut b o hb (Heap.get?_push_of_some _ e)))
end
/-- targets of a tuple, where an exception is handled -/
theorem pg_tupH {X : Cx} {es : List Expr} {k : Nat} {t : TGs} {n : Nat} {pos : Pos} (hc : L2H.HotC X) (h : PGs X es t)
    (hn : (assignEach es X.env).length = n := by rfl) (hst : (assignEach es X.env).findIdx? (·.1) = none := by rfl) : PG X (.Tuple es k pos) (gTup X.K n t) := by
  refine ⟨fun pins s σ H v u Q I r hw => ?_⟩
  obtain ⟨a, xs, e1, hq, hl, hw⟩ := hw
  subst e1
  cases r
  obtain ⟨its, rv, ht, hz⟩ := I.tuple hq
  obtain ⟨x1, hot⟩ := hc.at I
  rw [assign_Tuple]
  refine wpAny_bind (wpAny_standAt ?_)
  unfold unpack
  have e2 : (assignEach es X.env).length = its.toArray.size := by simp [hn, ← hl, rv.length]
  rw [e2, hst]
  refine wpAny_bind (wpAny_holding (unpack_hot hot ht fun h' hx => ?_))
  have I1 : Inv X pins σ H { s with heap := h' } := I.kept (t' := s.toks) fun b o e => hx b o (Nat.ne_of_lt (Heap.lt_size e)) e
  exact h.run pins _ σ H xs _ Q I1 (by simpa using rv) hw
/-- the suite is hot -/
theorem hot_suite {X : Cx} {a : Addr} {oe : Obj} {cls : Value} {d : Option Addr} {pn : List (Addr × Obj)} (hz : L2N.Zn cls d oe) (hd : ∃ vs, oe.data = .fields vs) : L2H.HotC (X.suite a ((a, oe) :: pn)) := by
  obtain ⟨vs, e⟩ := hd
  exact ⟨(a, oe), ⟨rfl, vs, e, hz.2.2 vs e⟩, List.mem_cons_self⟩
end Pp
-- E2
namespace Pp
open PySem PySem.Spec PyProof.Rows L2
/-! defs made at run time, held by a local name -/
def ObjO (a : Addr) (o : Obj) : HO := .ext fun h => h.get? a = some o
theorem objO_at {P : Program} {w : World} {H : Hp} {h : Heap} {a : Addr} {o : Obj} (hok : HOk P w H h) (e : H a = some (ObjO a o)) : h.get? a = some o := (hok a _ e).1
def IsFn (H : Hp) (f : Addr) : Prop := ∃ oc od fd sl, H f = some (ObjO f ⟨oc, od, .func fd, sl⟩)
theorem IsFn.at {P : Program} {w : World} {H : Hp} {h : Heap} {f : Addr} (hok : HOk P w H h) (e : IsFn H f) : PySem.W.FnAt f h := by
  obtain ⟨oc, od, fd, sl, e⟩ := e
  exact ⟨oc, od, fd, sl, objO_at hok e⟩
def tCallF (FR : Addr → Sp → Prop) (i : Nat) (E : L2.St → XK) (t : TA) : TE := fun σ H Q => ∃ f sl, σ[i]? = some (some (.ref f)) ∧ FR f sl ∧ IsFn H f ∧ t σ H fun vs H1 => IsFn H1 f ∧ sl vs H1 Q (E σ)
section
variable {X : Cx} {cx : CXT} {k j : Nat} {C : Addr} {m x : Str} {ps : List Str} {sp : Sp} {E : L2.St → XK} {p pos apos : Pos} {o e : Expr} {es : List Expr} {ta : TE} {t : TA}
theorem run_fnRS {pins : List (Addr × Obj)} {σ : L2.St} {H : Hp} {s : Shared} {Q : VK} {us : List Value} {vs : List V} {f : Addr} {sl : Sp} {E : XK} (F : FnR X.prog X.w X.K X.mg X.base cx k f sl) (hr : Room k X.A) (hx : PassesAt cx X σ E)
    (I : Inv X pins σ H s) (r : Vals vs us) (h : sl vs H Q E) : wpAny (model X.prog X.w) X.A (call (.ref f) us) (EP X pins σ Q) X.xe s := by
  refine wpAny_call (codeAny_mono (F X.A X.stack s H us vs Q E hr I.env0 r h) fun r s' hq => ?_)
  cases r with
  | error e => exact hx pins H s e s' I hq
  | ok fl =>
    cases fl with
    | ret u => exact I.after hq
    | next => exact False.elim hq
    | brk => exact False.elim hq
    | cont => exact False.elim hq
theorem pe_callF {FR : Addr → Sp → Prop} {i : Nat} (hF : ∀ f sl, FR f sl → FnR X.prog X.w X.K X.mg X.base cx k f sl) (hr : Room j X.A) (hk : k ≤ j) (hN : X.N[i]? = some x) (hv : Vis X.env.scope x) (hx : ∀ σ, PassesAt cx X σ (E σ)) (ha : PA X (e :: es) t)
    (hdb : (x == ("__debug__" : Str)) = false := by decide) (hcd : (x == ("__classdict__" : Str)) = false := by decide)
    (he : starEach (e :: es) X.env = (false, eval e X.env) :: starEach es X.env := by rfl) (hpl : (backTo pos (starEach es X.env)).any (·.1) = false := by rfl) : PE X (.Call (.Name x p) (e :: es) [] pos) (tCallF FR i E t) := by
  refine ⟨fun pins s σ H Q I h => ?_⟩
  obtain ⟨f, sl, hs, hfr, hi, ht⟩ := h
  refine wpAny_Call_Name_kw (thn ((pe_var (pos := p) hN hv hdb hcd).run pins s σ H (fun v H1 => v = .ref f ∧ H1 = H) I ⟨.ref f, hs, rfl, rfl⟩) fun u s1 ⟨v, H1, I1, r1, q1⟩ => ?_)
  obtain ⟨rfl, rfl⟩ := q1
  cases r1
  exact PySem.W.callWith_F (hi.at I1.hok) (thn (ha.run pos pins s1 σ _ _ I1 ht) fun us s2 ⟨vs, H2, I2, r, hi2, q⟩ => ⟨hi2.at I2.hok, run_fnRS (hF f sl hfr) (hr.mono hk) (hx σ) I2 r q⟩) he hpl
theorem pe_callF0 {FR : Addr → Sp → Prop} {i : Nat} (hF : ∀ f sl, FR f sl → FnR X.prog X.w X.K X.mg X.base cx k f sl) (hr : Room j X.A) (hk : k ≤ j) (hN : X.N[i]? = some x) (hv : Vis X.env.scope x) (hx : ∀ σ, PassesAt cx X σ (E σ))
    (hdb : (x == ("__debug__" : Str)) = false := by decide) (hcd : (x == ("__classdict__" : Str)) = false := by decide) : PE X (.Call (.Name x p) [] [] pos) (tCallF FR i E tNil) := by
  refine ⟨fun pins s σ H Q I h => ?_⟩
  obtain ⟨f, sl, hs, hfr, hi, _, q⟩ := h
  refine wpAny_Call_Name_kw (thn ((pe_var (pos := p) hN hv hdb hcd).run pins s σ H (fun v H1 => v = .ref f ∧ H1 = H) I ⟨.ref f, hs, rfl, rfl⟩) fun u s1 ⟨v, H1, I1, r1, q1⟩ => ?_)
  obtain ⟨rfl, rfl⟩ := q1
  cases r1
  exact PySem.W.callWith_F0 (hi.at I1.hok) (run_fnRS (us := []) (vs := []) (hF f sl hfr) (hr.mono hk) (hx σ) I1 .nil q)
/-- o.m(e, ..), what it lets out wished for at the slots as they stand -/
def tMnS (C : Addr) (m : Str) (sp : Sp) (E : L2.St → XK) (ta : TE) (t : TA) : TE := fun σ H Q => ta σ H fun x H1 => ∃ a dx fs, x = .ref a ∧ H1 a = some (.ins C dx fs) ∧ fs.lookup m = none ∧ t σ H1 fun vs H2 => sp (x :: vs) H2 Q (E σ)
theorem pe_mnS {pl : Sem Bool} (D : Mn X.prog X.w X.K X.mg X.base cx k C m ps sp) (c : Cls X.K C) (hr : Room j X.A) (hk : k ≤ j) (hx : ∀ σ, PassesAt cx X σ (E σ)) (he : PE X o ta) (ha : PA X (e :: es) t)
    (hst : starEach (e :: es) X.env = (false, eval e X.env) :: starEach es X.env := by rfl) (hpl : (backTo pos (starEach es X.env)).any (·.1) = false := by rfl)
    (ht : eval (.Call (.Attribute o m apos) (e :: es) [] pos) X.env = (do
      let ov ← eval o X.env
      standAt apos.atName
      let (f, first) ← holding [ov] (getMethod ov m pl)
      callWith pos f first (backTo pos (starEach (e :: es) X.env)) (backToKw pos (keywordEach [] X.env))) := by rfl) :
    PE X (.Call (.Attribute o m apos) (e :: es) [] pos) (tMnS C m sp E ta t) := by
  obtain ⟨f, fd, F, hm, _, b⟩ := D.ex
  refine ⟨fun pins s σ H Q I h => ?_⟩
  refine PySem.W.methodCall_KW (pl := pl) (thn (he.run pins s σ H _ I h) fun u s1 ⟨x, H1, I1, rx, a, dx, fs, ex, ea, l, q⟩ => ?_) ht
  subst ex
  obtain rfl : u = Value.ref a := rx
  refine getmeth_ok I1 ea c hm l ?_
  refine PySem.W.callWith_K (first := [.ref a]) (h₀ := X.base) I.ok.mod.kin hm.kp (thn (ha.run pos pins s1 σ H1 _ I1 q) fun us s2 ⟨vs, H2, I2, r, q2⟩ => ⟨I2.kIn, ?_⟩) hst hpl
  exact run_fnS (us := .ref a :: us) (vs := .ref a :: vs) F (hr.mono hk) b (hx σ) I2 (.cons rfl r) q2
end
/-! rules whose reading names the context's K: told apart from it -/
section
variable {X : Cx} {K : PySem.W.Frag} {e : Expr} {f : Str} {pos : Pos} {ta : TE} {tg l : Expr}
theorem pi_tupK {tl : TE} (hl : PE X l tl) (hK : X.K = K) : PI X tg l (iTup K tl) := hK ▸ pi_tup hl
theorem pg_attK (he : PE X e ta) (hK : X.K = K) : PG X (.Attribute e f pos) (gAtt K ta f) := hK ▸ pg_att he
theorem pg_tupHK {es : List Expr} {k : Nat} {t : TGs} {n : Nat} (hc : L2H.HotC X) (h : PGs X es t) (hK : X.K = K)
    (hn : (assignEach es X.env).length = n := by rfl) (hst : (assignEach es X.env).findIdx? (·.1) = none := by rfl) : PG X (.Tuple es k pos) (gTup K n t) := hK ▸ pg_tupH hc h hn hst
end
/-! what is seen of a book at each look -/
def namesOf (sh : Shelf) : List Str := (["a", "main", "zz"] : List Str).filter fun x => decide (x ∈ sh.map (·.1))
def LookAt (H : Hp) (l : Addr) (z : Nat × List Str) : Prop := ∃ t, H l = some (.lst [.bl true, .int (z.1 : Int), .ref t]) ∧ H t = some (.tup (z.2.map V.str))
def SeenAt (H : Hp) (sn : Addr) (looks : List (Nat × List Str)) : Prop := ∃ as : List Addr, H sn = some (.lst (as.map V.ref)) ∧ P2 (LookAt H) as looks
/-- things told by their own object alone are as they were -/
def Kx (H H' : Hp) : Prop := ∀ a φ, H a = some (.ext φ) → H' a = some (.ext φ)
theorem Kx.refl (H : Hp) : Kx H H := fun _ _ h => h
theorem Kx.trans {H H1 H2 : Hp} (a : Kx H H1) (b : Kx H1 H2) : Kx H H2 := fun c φ h => b c φ (a c φ h)
def spW (C b sn : Addr) (ends : Nat) (H : Hp) (Q : VK) (E : XK) : Prop := ∃ pg past looks, BookAt C H b pg past ∧ PgOk pg ∧ SeenAt H sn looks ∧ looks.length < 100 ∧ past.length < 10000 ∧
  (looks.length + 1 ≠ ends → ∀ H', But sn H H' → SeenAt H' sn (looks ++ [(past.length, namesOf pg.sh)]) → Q .non H') ∧
  (looks.length + 1 = ends → ∀ d H', But sn H H' → SeenAt H' sn (looks ++ [(past.length, namesOf pg.sh)]) → E (.type "KeyError") d H')
/-- a watch: the def at f, its promise, the list where it notes, the look at which it lets an error out -/
structure Wd where
  f : Addr
  sl : Sp
  sn : Addr
  ends : Nat
structure WdOk (FR : Addr → Sp → Prop) (C b : Addr) (H : Hp) (d : Wd) : Prop where
  fr : FR d.f d.sl
  fn : IsFn H d.f
  run : ∀ H' Q E, Kx H H' → spW C b d.sn d.ends H' Q E → d.sl [.ref b] H' Q E
  seen : SeenAt H d.sn []
/-- the pages that deeds lead to, the error that ends them -/
def runs : Page → List Deed → List Page × Option Err
  | _, [] => ([], none)
  | pg, d :: ds => match behind pg d with
    | .inl e => ([], some e)
    | .inr pg' => (pg' :: (runs pg' ds).1, (runs pg' ds).2)
def looksFrom (n : Nat) : List Page → List (Nat × List Str)
  | [] => []
  | pg :: r => (n, namesOf pg.sh) :: looksFrom (n + 1) r
def lastP (pg : Page) : List Page → Page
  | [] => pg
  | p :: r => lastP p r
/-- all but the book (and the list of looks) is as it was -/
def KeepW (b : Addr) (wd : Option Wd) (H H' : Hp) : Prop := ∀ a o, a ≠ b → (∀ d, wd = some d → a ≠ d.sn) → H a = some o → H' a = some o
def SeenW (H : Hp) (wd : Option Wd) (looks : List (Nat × List Str)) : Prop := ∀ d, wd = some d → SeenAt H d.sn looks
def cutW (wd : Option Wd) (n : Nat) : Option Nat := match wd with
  | none => none
  | some d => if 0 < d.ends ∧ d.ends ≤ n then some d.ends else none
/-- what comes of it -/
def Done (C : Addr) (mg : Str → Option Value) (H : Hp) (Q : VK) (E : XK) (b : Addr) (wd : Option Wd) (pg : Page) (past : List Page) (ds : List Deed) : Prop :=
  match cutW wd (runs pg ds).1.length with
  | some e => ∀ d H', KeepW b wd H H' → BookAt C H' b pg past → SeenW H' wd ((looksFrom (past.length + 1) (runs pg ds).1).take e) → E (.type "KeyError") d H'
  | none => match (runs pg ds).2 with
    | some e => ∀ cls d H', KeepW b wd H H' → BookAt C H' b pg past → SeenW H' wd (looksFrom (past.length + 1) (runs pg ds).1) → ErrAt mg H' cls d e → E cls d H'
    | none => ∀ H', KeepW b wd H H' → BookAt C H' b (lastP pg (runs pg ds).1) ((past ++ pg :: (runs pg ds).1).dropLast) → SeenW H' wd (looksFrom (past.length + 1) (runs pg ds).1) → Q (.int (ds.length : Int)) H'
theorem runs_inl {pg : Page} {d : Deed} {ds : List Deed} {er : Err} (e : behind pg d = .inl er) : runs pg (d :: ds) = ([], some er) := by rw [runs, e]
theorem runs_inr {pg p : Page} {d : Deed} {ds : List Deed} (e : behind pg d = .inr p) : runs pg (d :: ds) = (p :: (runs p ds).1, (runs p ds).2) := by rw [runs, e]
theorem looks_len : ∀ (n : Nat) (ps : List Page), (looksFrom n ps).length = ps.length
  | _, [] => rfl
  | n, _ :: r => congrArg (· + 1) (looks_len (n + 1) r)
theorem looks_take : ∀ {n i : Nat} {ps : List Page} {p : Page}, ps[i]? = some p → (looksFrom n ps).take (i + 1) = (looksFrom n ps).take i ++ [(n + i, namesOf p.sh)]
  | _, _, [], _, h => by simp at h
  | n, 0, q :: r, p, h => by
    have := Option.some.inj h
    subst this
    rfl
  | n, i + 1, q :: r, p, h => by
    have ih := looks_take (n := n + 1) (i := i) (ps := r) h
    show (n, namesOf q.sh) :: (looksFrom (n + 1) r).take (i + 1) = (n, namesOf q.sh) :: (looksFrom (n + 1) r).take i ++ [(n + (i + 1), namesOf p.sh)]
    rw [ih, show n + 1 + i = n + (i + 1) by omega]
    rfl
theorem lastP_eq : ∀ (pg : Page) (ps : List Page), (pg :: ps).getLast? = some (lastP pg ps)
  | _, [] => rfl
  | pg, p :: r => by
    rw [List.getLast?_cons_cons]
    exact lastP_eq p r
/-- i deeds have been done -/
structure RunAt (past : List Page) (pg : Page) (ds : List Deed) (i : Nat) (hist : List Page) (pgi : Page) : Prop where
  eq : hist ++ [pgi] = past ++ pg :: (runs pg ds).1.take i
  rest : runs pgi (ds.drop i) = ((runs pg ds).1.drop i, (runs pg ds).2)
  le : i ≤ (runs pg ds).1.length
  len : hist.length = past.length + i
theorem RunAt.zero (past : List Page) (pg : Page) (ds : List Deed) : RunAt past pg ds 0 past pg := ⟨rfl, rfl, Nat.zero_le _, rfl⟩
theorem RunAt.bad {past : List Page} {pg : Page} {ds : List Deed} {i : Nat} {hist : List Page} {pgi : Page} {d : Deed} {er : Err} (R : RunAt past pg ds i hist pgi) (hd : ds[i]? = some d) (e : behind pgi d = .inl er) : (runs pg ds).1.length = i ∧ (runs pg ds).2 = some er := by
  have h := R.rest
  obtain ⟨hl, hx⟩ := List.getElem?_eq_some_iff.mp hd
  rw [List.drop_eq_getElem_cons hl, hx, runs_inl e] at h
  have h1 := congrArg Prod.fst h
  have h2 := congrArg Prod.snd h
  have h1' : (runs pg ds).1.drop i = [] := h1.symm
  have := congrArg List.length h1'
  rw [List.length_drop] at this
  have := R.le
  exact ⟨by simp at *; omega, h2.symm⟩
theorem RunAt.next {past : List Page} {pg : Page} {ds : List Deed} {i : Nat} {hist : List Page} {pgi p : Page} {d : Deed} (R : RunAt past pg ds i hist pgi) (hd : ds[i]? = some d) (e : behind pgi d = .inr p) : RunAt past pg ds (i + 1) (hist ++ [pgi]) p ∧ (runs pg ds).1[i]? = some p := by
  have h := R.rest
  obtain ⟨hl, hx⟩ := List.getElem?_eq_some_iff.mp hd
  rw [List.drop_eq_getElem_cons hl, hx, runs_inr e] at h
  have h1 : p :: (runs p (ds.drop (i + 1))).1 = (runs pg ds).1.drop i := (Prod.mk.inj h).1
  have h2 : (runs p (ds.drop (i + 1))).2 = (runs pg ds).2 := (Prod.mk.inj h).2
  have hi : i < (runs pg ds).1.length := by
    have := congrArg List.length h1
    rw [List.length_drop, List.length_cons] at this
    omega
  rw [List.drop_eq_getElem_cons hi] at h1
  obtain ⟨h3, h4⟩ := List.cons.inj h1
  have hp : (runs pg ds).1[i]? = some p := by rw [List.getElem?_eq_getElem hi, ← h3]
  refine ⟨⟨?_, ?_, hi, ?_⟩, hp⟩
  · rw [R.eq, List.take_succ, hp]
    simp
  · rw [← h4, ← h2]
  · rw [List.length_append, R.len]
    rfl
theorem RunAt.end_ {past : List Page} {pg : Page} {ds : List Deed} {hist : List Page} {pgi : Page} (R : RunAt past pg ds ds.length hist pgi) : (runs pg ds).1.length = ds.length ∧ (runs pg ds).2 = none ∧ hist = (past ++ pg :: (runs pg ds).1).dropLast ∧ pgi = lastP pg (runs pg ds).1 := by
  have h := R.rest
  rw [List.drop_length] at h
  have h1 : [] = (runs pg ds).1.drop ds.length := congrArg Prod.fst h
  have h2 : none = (runs pg ds).2 := congrArg Prod.snd h
  have hl : (runs pg ds).1.length = ds.length := by
    have := congrArg List.length h1
    rw [List.length_drop, List.length_nil] at this
    have := R.le
    omega
  have he := R.eq
  rw [List.take_of_length_le (Nat.le_of_eq hl)] at he
  refine ⟨hl, h2.symm, ?_, ?_⟩
  · rw [← he, List.dropLast_concat]
  · have e1 := congrArg List.getLast? he
    rw [List.getLast?_append, List.getLast?_append] at e1
    rw [lastP_eq pg (runs pg ds).1] at e1
    simpa using e1
theorem SeenAt.but {H H' : Hp} {b sn C dx : Addr} {fs : List (Str × V)} {l : List (Nat × List Str)} (B : But b H H') (hb : H b = some (.ins C dx fs)) (h : SeenAt H sn l) : SeenAt H' sn l := by
  obtain ⟨as, h1, h2⟩ := h
  have ne : ∀ a o, H a = some o → (∀ C dx fs, o ≠ .ins C dx fs) → H' a = some o := fun a o e n => B a o (fun z => n C dx fs (by rw [z, hb] at e; exact (Option.some.inj e).symm)) e
  exact ⟨as, ne _ _ h1 (fun _ _ _ z => by cases z), h2.imp fun a z ⟨t, e1, e2⟩ => ⟨t, ne _ _ e1 (fun _ _ _ z => by cases z), ne _ _ e2 (fun _ _ _ z => by cases z)⟩⟩
theorem KeepW.refl {b : Addr} {wd : Option Wd} (H : Hp) : KeepW b wd H H := fun _ _ _ _ h => h
theorem KeepW.but {b : Addr} {wd : Option Wd} {H H1 H2 : Hp} (k : KeepW b wd H H1) (B : But b H1 H2) : KeepW b wd H H2 := fun a o h1 h2 h => B a o h1 (k a o h1 h2 h)
theorem KeepW.sn {b : Addr} {d : Wd} {H H1 H2 : Hp} (k : KeepW b (some d) H H1) (B : But d.sn H1 H2) : KeepW b (some d) H H2 := fun a o h1 h2 h => B a o (h2 d rfl) (k a o h1 h2 h)
theorem KeepW.same {b : Addr} {wd : Option Wd} {H H1 H2 : Hp} (S : Same H H1) (k : KeepW b wd H1 H2) : KeepW b wd H H2 := fun a o h1 h2 h => k a o h1 h2 (S _ _ h)
theorem KeepW.keep {b : Addr} {wd : Option Wd} {H H' : Hp} {C dx : Addr} {fs : List (Str × V)} (k : KeepW b wd H H') (hb : H b = some (.ins C dx fs)) (hs : SeenW H wd []) {a : Addr} {o : HO} (e : H a = some o) (n1 : ∀ C dx fs, o ≠ .ins C dx fs) (n2 : ∀ l, o ≠ .lst l) : H' a = some o :=
  k a o (fun z => n1 C dx fs (by rw [z, hb] at e; exact (Option.some.inj e).symm)) (fun d hd z => by
    obtain ⟨as, h1, _⟩ := hs d hd
    rw [z, h1] at e
    exact n2 _ (Option.some.inj e).symm) e
theorem DeedAt.td {H H' : Hp} (S : TD H H') {v : V} {d : Deed} (h : DeedAt H v d) : DeedAt H' v d := by
  cases d with
  | put A p =>
    obtain ⟨x, a, e, h1, h2⟩ := h
    exact ⟨x, a, e, S.t _ _ h1, S.t _ _ h2⟩
  | drop A =>
    obtain ⟨x, e, h1⟩ := h
    exact ⟨x, e, S.t _ _ h1⟩
  | wish w =>
    obtain ⟨x, y, e, h1, h2⟩ := h
    exact ⟨x, y, e, S.t _ _ h1, S.t _ _ h2⟩
  | lift i =>
    obtain ⟨x, e, h1⟩ := h
    exact ⟨x, e, S.t _ _ h1⟩
abbrev s_Book_do_all : Stmt := inClass (top 55) 16
theorem sc_Book_do_all : FnScope ["self", "watch", "deeds", "index", "deed", "numbers", "made", "past"] ["self", "watch", "deeds"] (defScope s_Book_do_all) := ⟨rfl, rfl, rfl, by decide +kernel, rfl, by decide +kernel, by decide +kernel⟩
abbrev N_Book_do_all : List Str := ["self", "watch", "deeds", "index", "deed", "numbers", "made", "past"]
def spDoAll (FR : Addr → Sp → Prop) (C : Addr) (mg : Str → Option Value) : Sp := fun vs H Q E => ∃ b wv q xs pg past, vs = [.ref b, wv, .ref q] ∧ H q = some (.tup xs) ∧ xs.length ≤ 6 ∧ BookAt C H b pg past ∧ PgOk pg ∧ pg.ws.length ≤ 1000 ∧ past.length ≤ 1000 ∧
  ((∃ i v, xs[i]? = some v ∧ BadAt H v ∧ (∀ (j : Nat) y, j < i → xs[j]? = some y → ∃ d, DeedAt H y d) ∧ Out mg H E (.deeds i)) ∨
    ∃ ds wd, P2 (DeedAt H) xs ds ∧ (∀ d ∈ ds, DeedOk d) ∧ ((wv = .non ∧ wd = none) ∨ ∃ d, wd = some d ∧ wv = .ref d.f ∧ WdOk FR C b H d) ∧ Done C mg H Q E b wd pg past ds)
section
variable {P : Program} {w : World} {K : PySem.W.Frag} {mg : Str → Option Value} {base : Heap} {C : Addr}
theorem body_do_all {FR : Addr → Sp → Prop} {k : Nat} (hk : 2 ≤ k) (hk2 : 12 ≤ k) (hF : ∀ f sl, FR f sl → FnR P w K mg base (L2N.CX P w) 4 f sl) (B : Blt mg) (BK : BkT K mg C) (EK : ErK K mg) (D_is_deed : Dn P w K mg base CX0 2 "is_deed" ["value"] spIsDeed)
    (D_m_do : Mn P w K mg base (L2N.CX P w) 12 C "do" ["self", "deed"] (spDo C mg)) (f : Addr) (cdv : Value) (A : Around) (outer : List Env) (s : Shared) (H : Hp) (vs : List V) (Q : VK) (E : XK) (hr : Room k (A.deeper (envOfC "Book.do_all" (defScope s_Book_do_all) s.heap.objs.size f cdv))) (h : spDoAll FR C mg vs H Q E) :
    ∃ t, PSs (cxOf (L2N.CX P w) P w K mg base N_Book_do_all "Book.do_all" (defScope s_Book_do_all) f cdv A outer s H E) (defBody s_Book_do_all) t ∧ t { nx := fun _ H' => Q .non H', rt := Q } (start N_Book_do_all vs) H := by
  obtain ⟨_, _, T_InvalidDeeds⟩ := EK.at_ (.deeds 0)
  refine ⟨_, pss_cons
    (ps_for (passes_of rfl) rfl (pi_enumT rfl B.enumerate (pa_cons (pv 2) pa_nil)) (pg_tup rfl (pgs_cons (pg_name (i := 3) sc_Book_do_all.nd rfl (.inl rfl)) (pgs_cons (pg_name (i := 4) sc_Book_do_all.nd rfl (.inl rfl)) pgs_nil)))
      (pss_one (ps_if (pt_not (pt_val (pe_fn D_is_deed hr hk rfl (pa_cons (pv 4) pa_nil)))) (pss_one (ps_raiseE rfl T_InvalidDeeds hr (L2N.takes_of rfl rfl rfl rfl) (pa_cons (pv 3) pa_nil) rfl)) pss_nil)))
    (pss_cons (ps_par3 (i := 5) (j := 6) (l := 7) rfl sc_Book_do_all.nd rfl rfl rfl (by decide) (by decide) (by decide) rfl rfl rfl (pa_cons (pe_fld (pv 0) rfl) (pa_cons (pe_fld (pv 0) rfl) (pa_cons (pe_fld (pv 0) rfl) pa_nil))) (by rfl))
    (pss_cons (ps_finN rfl rfl rfl (L2N.takes_of rfl rfl rfl rfl)
        (fun W pn xe tk po => pss_cons
          (ps_for po rfl (pi_tupK (K := K) (pv 2) (by rfl)) (pg_name (i := 4) sc_Book_do_all.nd rfl (.inl rfl))
            (pss_cons (ps_expr (pe_mnS D_m_do BK.cls hr hk2 (fun σ => L2N.passAt tk σ) (pv 0) (pa_cons (pv 4) pa_nil)))
              (pss_one (ps_if (pt_cmpR op_notN (pv 1) pe_non (nomark _)) (pss_one (ps_expr (pe_callF (FR := FR) (i := 1) hF hr (Nat.le_trans (by decide) hk2) rfl (.inl rfl) (fun σ => L2N.passAt tk σ) (pa_cons (pv 0) pa_nil)))) pss_nil))))
          (pss_one (ps_par3 (i := 5) (j := 6) (l := 7) rfl sc_Book_do_all.nd rfl rfl rfl (by decide) (by decide) (by decide) rfl rfl rfl (pa_cons (pe_fldK (K := K) (pv 0) (by rfl) (by rfl)) (pa_cons (pe_fldK (K := K) (pv 0) (by rfl) (by rfl)) (pa_cons (pe_fldK (K := K) (pv 0) (by rfl) (by rfl)) pa_nil))) (by rfl))))
        (pss_one (ps_asg (pe_tup (pa_cons (pv 5) (pa_cons (pv 6) (pa_cons (pv 7) pa_nil)))) (pg_tup rfl (pgs_cons (pg_att (pv 0)) (pgs_cons (pg_att (pv 0)) (pgs_cons (pg_att (pv 0)) pgs_nil))))))
        (fun a oe cls d pn hz hd => pss_one (ps_asg (pe_tup (pa_cons (pv 5) (pa_cons (pv 6) (pa_cons (pv 7) pa_nil)))) (pg_tupHK (K := K) (n := 3) (hot_suite hz hd) (pgs_cons (pg_attK (K := K) (pv 0) (by rfl)) (pgs_cons (pg_attK (K := K) (pv 0) (by rfl)) (pgs_cons (pg_attK (K := K) (pv 0) (by rfl)) pgs_nil))) (by rfl)))))
    (pss_one (ps_ret (pe_callB (id := "len") call_len_seq (by rfl) B.len (by decide +kernel) (pa_cons (pv 2) pa_nil)))))), ?_⟩
  obtain ⟨b, wv, q, xs, pg, past, rfl, hq, hxl, hb, hg, hwl, hpl, hcase⟩ := h
  obtain ⟨nd, md, pd, ⟨dx, h1⟩, h2, h3⟩ := id hb
  refine ⟨_, rfl, q, xs, rfl, SqT.of hq, ?_⟩
  rcases hcase with ⟨i0, v0, hv0, hbad, hgood, ho⟩ | ⟨ds, wd, hds, hok, hwd, hdone⟩
  · refine for_it (walk_enuT (K := K) (a := q) (xs := xs)) (fun i σ H3 => i ≤ i0 ∧ Same H H3 ∧ ∃ x y, σ = [some (.ref b), some wv, some (.ref q), x, y, none, none, none]) ⟨Nat.zero_le _, Same.refl _, _, _, rfl⟩ (fun i σ H3 _ ⟨_, S3, _⟩ => SqT.of (S3 _ _ hq)) ?_ ?_
    · rintro i x σ H3 H4 hi ⟨hi0, S3, x1, y1, rfl⟩ ⟨T, x2, y2, rfl, hT2, rfl, e1, e2⟩
      cases e1
      have e2' : xs[i]? = some y2 := e2
      have S4 : Same H (upd H3 T (.tup [.int (i : Nat), y2])) := S3.trans (same_new hT2)
      refine ⟨T, _, rfl, SqT.of upd_same, rfl, _, _, rfl, _, _, rfl, rfl, ?_⟩
      by_cases c : i = i0
      · subst c
        rw [hv0] at e2'
        cases e2'
        refine ⟨_, rfl, v0, rfl, .inr ⟨hbad.on S4, _, rfl, iteT ?_⟩⟩
        exact ⟨_, rfl, _, rfl, fun d hd' => Out.at (e := .deeds i) ho S4 hd'⟩
      · obtain ⟨d, hd⟩ := hgood i y2 (by omega) e2'
        exact ⟨_, rfl, y2, rfl, .inl ⟨⟨d, hd.on S4⟩, _, rfl, iteF ⟨by omega, S4, _, _, rfl⟩⟩⟩
    · rintro σ H3 ⟨hi0, _⟩
      exact absurd (List.getElem?_eq_some_iff.mp hv0).1 (by omega)
  · refine for_it (walk_enuT (K := K) (a := q) (xs := xs)) (fun i σ H3 => Same H H3 ∧ ∃ x y, σ = [some (.ref b), some wv, some (.ref q), x, y, none, none, none]) ⟨Same.refl _, _, _, rfl⟩ (fun i σ H3 _ ⟨S3, _⟩ => SqT.of (S3 _ _ hq)) ?_ ?_
    · rintro i x σ H3 H4 hi ⟨S3, x1, y1, rfl⟩ ⟨T, x2, y2, rfl, hT2, rfl, e1, e2⟩
      cases e1
      have e2' : xs[i]? = some y2 := e2
      have S4 : Same H (upd H3 T (.tup [.int (i : Nat), y2])) := S3.trans (same_new hT2)
      refine ⟨T, _, rfl, SqT.of upd_same, rfl, _, _, rfl, _, _, rfl, rfl, ?_⟩
      obtain ⟨d, hd1, hd2⟩ := hds.get1 e2'
      exact ⟨_, rfl, y2, rfl, .inl ⟨⟨d, hd2.on S4⟩, _, rfl, iteF ⟨S4, _, _, rfl⟩⟩⟩
    · rintro σ H3 ⟨S3, x1, y1, rfl⟩
      have h1' := S3 _ _ h1
      refine ⟨_, rfl, b, C, dx, _, _, rfl, h1', BK.cls, BK.nN, lN, _, rfl, b, C, dx, _, _, rfl, h1', BK.cls, BK.nM, lM, _, rfl, b, C, dx, _, _, rfl, h1', BK.cls, BK.nP, lP, _, _, _, rfl, ?_⟩
      have hsn : SeenW H wd [] := by
        rintro d rfl
        rcases hwd with ⟨_, z⟩ | ⟨d', z, _, ok⟩
        · cases z
        · cases z; exact ok.seen
      have kT : ∀ H4, KeepW b wd H H4 → TD H H4 := fun H4 k => ⟨fun a xs e => k.keep h1 hsn e (fun _ _ _ z => by cases z) (fun _ z => by cases z), fun a xs e => k.keep h1 hsn e (fun _ _ _ z => by cases z) (fun _ z => by cases z)⟩
      have kX : ∀ H4, KeepW b wd H H4 → Kx H H4 := fun H4 k a φ e => k.keep h1 hsn e (fun _ _ _ z => by cases z) (fun _ z => by cases z)
      have fin : ∀ (y : Option V) (H4 : Hp) (D : Ends) (n m p' : Addr) (pgx : Page) (px : List Page), PgAt H4 n m pgx → PastAt H4 p' px → (∃ pgi hist, BookAt C H4 b pgi hist) → (∀ H5, But b H4 H5 → BookAt C H5 b pgx px → D.nx [some (.ref b), some wv, some (.ref q), x1, y, some (.ref n), some (.ref m), some (.ref p')] H5) →
          tAsg (tTup (tCons (tVar 5) (tCons (tVar 6) (tCons (tVar 7) tNil)))) (gTup K 3 (gCons (gAtt K (tVar 0) "numbers") (gCons (gAtt K (tVar 0) "made") (gCons (gAtt K (tVar 0) "past") gNil)))) D [some (.ref b), some wv, some (.ref q), x1, y, some (.ref n), some (.ref m), some (.ref p')] H4 := by
        rintro y H4 D n m p' pgx px hx1 hx2 ⟨pgi, hist, n4, m4, p4, ⟨dx4, e4⟩, _, _⟩ kk
        refine ⟨_, rfl, _, rfl, _, rfl, sz3, fun t ht => ?_⟩
        have e5 : upd H4 t (.tup [.ref n, .ref m, .ref p']) b = some (.ins C dx4 [("numbers", .ref n4), ("made", .ref m4), ("past", .ref p4)]) := same_new ht _ _ e4
        refine ⟨t, _, rfl, SqT.of upd_same, rfl, _, _, rfl, _, rfl, b, C, dx4, _, rfl, e5, BK.cls, BK.nN, (show 3 < 1000 by decide), ?_⟩
        rw [putN]
        refine ⟨_, _, rfl, _, rfl, b, C, dx4, _, rfl, upd_same, BK.cls, BK.nM, (show 3 < 1000 by decide), ?_⟩
        rw [putM, upd_upd]
        refine ⟨_, _, rfl, _, rfl, b, C, dx4, _, rfl, upd_same, BK.cls, BK.nP, (show 3 < 1000 by decide), ?_⟩
        rw [putP, upd_upd]
        have B5 : But b H4 (upd (upd H4 t (.tup [.ref n, .ref m, .ref p'])) b (.ins C dx4 [("numbers", .ref n), ("made", .ref m), ("past", .ref p')])) := fun c o hc ho => by
          rw [upd_ne hc]
          exact same_new ht _ _ ho
        have T := TD.ins B5 e4
        exact ⟨rfl, kk _ B5 ⟨n, m, p', ⟨dx4, upd_same⟩, hx1.td T, hx2.td T⟩⟩
      refine ⟨_, rfl, q, rfl, ⟨xs, SqT.of (S3 _ _ hq)⟩, ?_⟩
      refine for_it (walk_tup (K := K) (a := q) (xs := xs)) (fun i σ H4 => (∃ y, σ = [some (.ref b), some wv, some (.ref q), x1, y, some (.ref nd), some (.ref md), some (.ref pd)]) ∧ KeepW b wd H H4 ∧ ∃ hist pgi, RunAt past pg ds i hist pgi ∧ BookAt C H4 b pgi hist ∧ PgOk pgi ∧ pgi.ws.length ≤ pg.ws.length + i ∧
        SeenW H4 wd ((looksFrom (past.length + 1) (runs pg ds).1).take i) ∧ ∀ d, wd = some d → ¬ (0 < d.ends ∧ d.ends ≤ i)) ?_ ?_ ?_ ?_
      · exact ⟨⟨y1, rfl⟩, fun a o _ _ h => S3 _ _ h, past, pg, RunAt.zero past pg ds, hb.on S3, hg, Nat.le_refl _, fun d hd => (hsn d hd).but (But.of S3) h1, fun d _ z => by omega⟩
      · rintro i σ H4 _ ⟨_, k, _⟩
        exact SqT.of ((kT _ k).t _ _ hq)
      · rintro i v σ H4 H5 hi ⟨⟨y, rfl⟩, k, hist, pgi, R, hb4, hg4, hw4, hs4, hc4⟩ ⟨rfl, hv⟩
        obtain ⟨d, hd, hdv⟩ := hds.get1 hv
        have hdm : d ∈ ds := List.mem_of_getElem? hd
        obtain ⟨n4, m4, p4, ⟨dx4, e4⟩, g4, q4⟩ := id hb4
        have rl := R.len
        refine ⟨_, rfl, b, dx4, _, rfl, e4, rfl, _, rfl, b, v, d, pgi, hist, rfl, hdv.td (kT _ k), hok d hdm, hb4, hg4, by omega, ?_⟩
        -- what is left behind an error
        have bnt : ∀ {H' H5 : Hp} {l : List (Nat × List Str)}, (∃ C' dx' fs', H' b = some (.ins C' dx' fs')) → SeenW H' wd l → But b H' H5 → SeenW H5 wd l := fun ⟨_, _, _, hb'⟩ hs B' d' hd' => (hs d' hd').but B' hb'
        cases e : behind pgi d with
        | inl er =>
          obtain ⟨hl, he⟩ := R.bad hd e
          have hcut : cutW wd (runs pg ds).1.length = none := by
            rw [hl]
            unfold cutW
            cases wd with
            | none => rfl
            | some d' => exact if_neg (hc4 d' rfl)
          rw [Done, hcut, he] at hdone
          intro cls dd H' S' hea
          have k' : KeepW b wd H H' := k.but (But.of S')
          refine fin (some v) H' _ nd md pd pg past (h2.td (kT _ k')) (h3.td (kT _ k')) ⟨pgi, hist, hb4.on S'⟩ fun H5 B5 hb5 => ?_
          refine hdone cls dd H5 (k'.but B5) hb5 ?_ ?_
          · have := bnt ⟨_, _, _, S' _ _ e4⟩ (bnt ⟨_, _, _, e4⟩ hs4 (But.of S')) B5
            rwa [List.take_of_length_le (by rw [looks_len, hl]; exact Nat.le_refl _)] at this
          · obtain ⟨z1, a1, z2, z3⟩ := hea
            exact ⟨z1, a1, z2, B5 _ _ (fun z => by rw [z, S' _ _ e4] at z3; cases z3) z3⟩
        | inr p =>
          obtain ⟨R', hp⟩ := R.next hd e
          obtain ⟨g', w'⟩ := behind_ok hg4 (hok d hdm) (by omega) e
          have lt := looks_take (n := past.length + 1) hp
          intro H' B' hb'
          have k' : KeepW b wd H H' := k.but B'
          have hs' := bnt ⟨_, _, _, e4⟩ hs4 B'
          refine ⟨_, rfl, rfl, _, rfl, ?_⟩
          rcases hwd with ⟨rfl, rfl⟩ | ⟨dw, rfl, rfl, ok⟩
          · exact iteF ⟨⟨some v, rfl⟩, k', _, p, R', hb', g', by omega, fun d hd => (nomatch hd), fun d hd => (nomatch hd)⟩
          · have hs2 := hs' dw rfl
            have lh : ((looksFrom (past.length + 1) (runs pg ds).1).take i).length = i := by
              rw [List.length_take, looks_len]
              exact Nat.min_eq_left R.le
            have le1 : (hist ++ [pgi]).length = past.length + 1 + i := by
              rw [List.length_append, rl]
              show past.length + i + 1 = _
              omega
            have fnk : IsFn H' dw.f := by
              obtain ⟨oc, od, fd, sl, z⟩ := ok.fn
              exact ⟨oc, od, fd, sl, kX _ k' _ _ z⟩
            obtain ⟨n5, m5, p5, ⟨dx5, e5⟩, g5, q5⟩ := id hb'
            have bk : ∀ H'', But dw.sn H' H'' → BookAt C H'' b p (hist ++ [pgi]) := fun H'' B2 => by
              obtain ⟨as, hsl, _⟩ := hs2
              have T := TD.but B2 (fun xs z => by rw [hsl] at z; cases z) (fun xs z => by rw [hsl] at z; cases z)
              exact ⟨n5, m5, p5, ⟨dx5, B2 _ _ (fun z => by rw [z, hsl] at e5; cases e5) e5⟩, g5.td T, q5.td T⟩
            refine iteT ⟨dw.f, dw.sl, rfl, ok.fr, fnk, _, rfl, fnk, ok.run H' _ _ (kX _ k') ⟨p, hist ++ [pgi], _, hb', g', hs2, by rw [lh]; omega, by rw [le1]; omega, fun hne H'' B2 hs3 => ?_, fun heq d9 H'' B2 hs3 => ?_⟩⟩
            · rw [le1, ← lt] at hs3
              rw [lh] at hne
              refine ⟨⟨some v, rfl⟩, k'.sn B2, _, p, R', bk _ B2, g', by omega, ?_, ?_⟩
              · rintro d' z
                cases z
                exact hs3
              · rintro d' z hz
                cases z
                exact hc4 dw rfl ⟨hz.1, by omega⟩
            · rw [le1, ← lt] at hs3
              rw [lh] at heq
              have k2 := k'.sn B2
              have hcut : cutW (some dw) (runs pg ds).1.length = some (i + 1) := by
                show (if 0 < dw.ends ∧ dw.ends ≤ (runs pg ds).1.length then some dw.ends else none) = some (i + 1)
                rw [← heq]
                exact if_pos ⟨Nat.succ_pos i, R'.le⟩
              rw [Done, hcut] at hdone
              have bk2 := bk _ B2
              refine fin (some v) H'' _ nd md pd pg past (h2.td (kT _ k2)) (h3.td (kT _ k2)) ⟨_, _, bk2⟩ fun H5 B5 hb5 => ?_
              obtain ⟨_, _, _, ⟨_, e6⟩, _⟩ := bk2
              refine hdone d9 H5 (k2.but B5) hb5 ?_
              rintro d' z
              cases z
              exact hs3.but B5 e6
      · rintro σ H4 ⟨⟨y, rfl⟩, k, hist, pgi, R, hb4, hg4, hw4, hs4, hc4⟩
        rw [hds.len] at R hs4 hc4
        obtain ⟨r1, r2, r3, r4⟩ := R.end_
        obtain ⟨n4, m4, p4, ⟨dx4, e4⟩, g4, q4⟩ := id hb4
        refine ⟨_, rfl, b, C, dx4, _, _, rfl, e4, BK.cls, BK.nN, lN, _, rfl, b, C, dx4, _, _, rfl, e4, BK.cls, BK.nM, lM, _, rfl, b, C, dx4, _, _, rfl, e4, BK.cls, BK.nP, lP, _, _, _, rfl, ?_⟩
        refine fin y H4 _ n4 m4 p4 pgi hist g4 q4 ⟨_, _, hb4⟩ fun H5 B5 hb5 => ?_
        refine ⟨_, rfl, q, xs, rfl, .inr (SqT.of ((kT _ (k.but B5)).t _ _ hq)), ?_⟩
        rw [hds.len]
        have hcut : cutW wd (runs pg ds).1.length = none := by
          rw [r1]
          unfold cutW
          cases wd with
          | none => rfl
          | some d' => exact if_neg (hc4 d' rfl)
        rw [Done, hcut, r2] at hdone
        refine hdone H5 (k.but B5) (by rw [← r3, ← r4]; exact hb5) fun d' hd' => ?_
        have := (hs4 d' hd').but B5 e4
        rwa [List.take_of_length_le (by rw [looks_len, r1]; exact Nat.le_refl _)] at this
end
end Pp
-- E3
namespace Pp
open PySem PySem.Spec PyProof.Rows L2
/-! do_all, called with up to six deeds, with a watch or without -/
theorem cxUpN {P : Program} {w : World} : StX.CXUp (L2N.CX P w) := by
  rintro outer s H s2 H2 E e s' un kp ho ⟨a, B, H', cls, d, ea, fl, hok, ub, na, os, ag, he⟩
  refine ⟨a, B, H', cls, d, ea, fl, hok, ⟨fun b o q n hb => ub.keep b o (kp b o q) (un.free b o q n (by simp)) hb, fun b o q hb => ub.slot b o (kp b o q) hb, fun b o q n => ub.free b o (kp b o q) (un.free b o q n (by simp)),
    fun b o q hb => ub.there b o (kp b o q) hb, fun b xs q => ub.tups b xs (un.tups b xs q), fun b o xs q => ub.frzs b o xs (un.frzs b o xs q), fun b ps q => ?_⟩, na, os.trans ho, ag, he⟩
  obtain ⟨m1, e1⟩ := un.tbls b ps q
  obtain ⟨m2, e2⟩ := ub.tbls b _ e1
  exact ⟨m1 ++ m2, by rw [e2, Array.append_assoc]⟩
abbrev daPs : List Str := ["self", "watch", "deeds"]
def daSp (sp : Sp) (b wv : V) (vs : List V) (H : Hp) (Q : VK) (E : XK) : Prop := vs.length ≤ 6 ∧ ∀ p, H p = none → sp [b, wv, .ref p] (upd H p (.tup vs)) Q E
structure DAll (P : Program) (w : World) (K : PySem.W.Frag) (mg : Str → Option Value) (base : Heap) (k : Nat) (C : Addr) (sp : Sp) : Prop where
  ex : ∃ f, Meth K C "do_all" f ∧
    (∀ (A : Around) (outer : List Env) (s : Shared) (H : Hp) (b wv : V) (vs : List V) (u0 uw : Value) (us : List Value) (Q : VK) (E : XK), Room k A → Env0 P w K mg base A outer s H → RelV b u0 → RelV wv uw → Vals vs us → daSp sp b wv vs H Q E →
      codeAny (model P w) A (.call (.ref f) ⟨u0 :: us, [("watch", uw)]⟩) (CR (L2N.CX P w) outer P w H s Q E) s) ∧
    ∀ (A : Around) (outer : List Env) (s : Shared) (H : Hp) (b : V) (vs : List V) (u0 : Value) (us : List Value) (Q : VK) (E : XK), Room k A → Env0 P w K mg base A outer s H → RelV b u0 → Vals vs us → daSp sp b .non vs H Q E →
      codeAny (model P w) A (.call (.ref f) ⟨u0 :: us, []⟩) (CR (L2N.CX P w) outer P w H s Q E) s
structure AtD (K : PySem.W.Frag) (C : Addr) (m qual : Str) (st : Stmt) (kws : List (Str × V)) : Prop where
  ex : ∃ f fd, FunD K m qual (defArgs st) (defBody st) (defScope st) [] kws f fd ∧ Meth K C m f
section
variable {kV doc pm cdv ct u0 uw : Value} {an : Option Addr} {D : Addr}
theorem bind_daK : ∀ {us : List Value}, us.length ≤ 6 → bindArgs (PySem.W.fnOf "do_all" "Book.do_all" (defArgs s_Book_do_all) (defBody s_Book_do_all) (defScope s_Book_do_all) .none kV doc pm an cdv ct) ⟨u0 :: us, [("watch", uw)]⟩ = (newTuple us >>= fun t => pure ([("self", u0), ("watch", uw), ("deeds", t)] : List (Str × Value)))
  | [], _ => rfl
  | [_], _ => rfl
  | [_, _], _ => rfl
  | [_, _, _], _ => rfl
  | [_, _, _, _], _ => rfl
  | [_, _, _, _, _], _ => rfl
  | [_, _, _, _, _, _], _ => rfl
  | _ :: _ :: _ :: _ :: _ :: _ :: _ :: _, h => absurd h (by simp)
theorem bind_da0 : ∀ {us : List Value}, us.length ≤ 6 → ∃ (β γ : Type) (k1 : Option Value → Sem β) (k2 : β → Sem γ) (k3 : γ → Sem (List (Str × Value))) (x : β),
    bindArgs (PySem.W.fnOf "do_all" "Book.do_all" (defArgs s_Book_do_all) (defBody s_Book_do_all) (defScope s_Book_do_all) .none (.ref D) doc pm an cdv ct) ⟨u0 :: us, []⟩ = ((nsGet D "watch" >>= k1) >>= k2) >>= k3 ∧ k1 (some uw) = pure x ∧
      (k2 x >>= k3) = (newTuple us >>= fun t => pure ([("self", u0), ("watch", uw), ("deeds", t)] : List (Str × Value)))
  | [], _ => ⟨_, _, _, _, _, _, rfl, rfl, rfl⟩
  | [_], _ => ⟨_, _, _, _, _, _, rfl, rfl, rfl⟩
  | [_, _], _ => ⟨_, _, _, _, _, _, rfl, rfl, rfl⟩
  | [_, _, _], _ => ⟨_, _, _, _, _, _, rfl, rfl, rfl⟩
  | [_, _, _, _], _ => ⟨_, _, _, _, _, _, rfl, rfl, rfl⟩
  | [_, _, _, _, _], _ => ⟨_, _, _, _, _, _, rfl, rfl, rfl⟩
  | [_, _, _, _, _, _], _ => ⟨_, _, _, _, _, _, rfl, rfl, rfl⟩
  | _ :: _ :: _ :: _ :: _ :: _ :: _ :: _, h => absurd h (by simp)
end
section
variable {P : Program} {w : World} {K : PySem.W.Frag} {mg : Str → Option Value} {base : Heap} {C : Addr}
theorem d_do_all {FR : Addr → Sp → Prop} (F : AtD K C "do_all" "Book.do_all" s_Book_do_all [("watch", .non)]) (hF : ∀ f sl, FR f sl → FnR P w K mg base (L2N.CX P w) 4 f sl) (B : Blt mg) (BK : BkT K mg C) (EK : ErK K mg) (D_is_deed : Dn P w K mg base CX0 2 "is_deed" ["value"] spIsDeed)
    (D_m_do : Mn P w K mg base (L2N.CX P w) 12 C "do" ["self", "deed"] (spDo C mg)) : DAll P w K mg base 13 C (spDoAll FR C mg) := by
  obtain ⟨f, fd, Fd, hm⟩ := F.ex
  obtain ⟨oc, od, dV, kV, doc, pm, an, cdv, ct, osl, rfl, lk, hcd, hD, hK⟩ := Fd.ex
  obtain rfl : dV = .none := by
    rcases hD with ⟨_, e⟩ | ⟨e, _⟩
    · exact e
    · exact absurd rfl e
  -- both ways of binding
  have go : ∀ (A : Around) (outer : List Env) (s : Shared) (H : Hp) (b wv : V) (vs : List V) (u0 uw : Value) (us : List Value) (args : Args) (Q : VK) (E : XK), Room 13 A → Env0 P w K mg base A outer s H → RelV b u0 → RelV wv uw → Vals vs us → daSp (spDoAll FR C mg) b wv vs H Q E →
      (∀ (A' : Around) (Ex : Value → Shared → Prop) (Q' : List (Str × Value) → Shared → Prop), wpAny (model P w) A' (newTuple us >>= fun t => pure ([("self", u0), ("watch", uw), ("deeds", t)] : List (Str × Value))) Q' Ex s → wpAny (model P w) A' (bindArgs (PySem.W.fnOf "do_all" "Book.do_all" (defArgs s_Book_do_all) (defBody s_Book_do_all) (defScope s_Book_do_all) .none kV doc pm an cdv ct) args) Q' Ex s) →
      codeAny (model P w) A (.call (.ref f) args) (CR (L2N.CX P w) outer P w H s Q E) s := by
    intro A outer s H b wv vs u0 uw us args Q E hr e0 rb rw_ rv ⟨hl, hsp⟩ hbind
    have hn : H s.heap.objs.size = none := e0.hok.fresh (Nat.le_refl _)
    have hl2 : us.length ≤ sizeLine := by rw [← rv.length]; exact Nat.le_trans hl (by decide)
    refine StX.run_bnd lk hcd sc_Book_do_all hr e0 (G := fun xs H2 => ∃ p, H p = none ∧ xs = [b, wv, .ref p] ∧ H2 = upd H p (.tup vs)) (fun A' Ex Q' h => hbind A' Ex Q' (wpAny_bind (wpAny_newTuple (wpAny_pure ?_) hl2))) fun s2 H2 xs ⟨p, hp, ex, eH⟩ hr' => ?_
    · have new : ObjOk P w (upd H s.heap.objs.size (.tup vs)) (s.heap.push ({ cls := .type "tuple", data := .seq us.toArray } : Obj)) s.heap.objs.size (.tup vs) := ⟨Nat.le_trans hl (by decide), us, rv, ⟨_, Heap.get?_push_size _ rfl, rfl, _, rfl⟩⟩
      have un := StX.un_laid (fs := frs outer) (s := s) (o := ({ cls := .type "tuple", data := .seq us.toArray } : Obj)) (u := .tup vs) hn
      exact h _ _ [b, wv, .ref s.heap.objs.size] [u0, uw, .ref s.heap.objs.size] (StX.env0_laid e0 new) un rfl (fun e s' => cxUpN outer s H _ _ E e s' un (fun b o q => Heap.get?_push_of_some _ q) rfl) (.cons rb (.cons rw_ (.cons rfl .nil))) rfl ⟨_, hn, rfl, rfl⟩
    · subst ex eH
      exact body_do_all (by decide) (by decide) hF B BK EK D_is_deed D_m_do f cdv A outer s2 _ _ Q E hr' (hsp p hp)
  refine ⟨f, hm, fun A outer s H b wv vs u0 uw us Q E hr e0 rb rw_ rv h => ?_, fun A outer s H b vs u0 us Q E hr e0 rb rv h => ?_⟩
  · refine go A outer s H b wv vs u0 uw us _ Q E hr e0 rb rw_ rv h fun A' Ex Q' q => ?_
    rw [bind_daK (by rw [← rv.length]; exact h.1)]
    exact q
  · rcases hK with z | ⟨Dk, rfl, hq⟩
    · cases z
    obtain ⟨u, hu, ru⟩ := hq ("watch", .non) (List.mem_cons_self ..)
    obtain rfl : u = Value.none := ru
    refine go A outer s H b .non vs u0 .none us _ Q E hr e0 rb rfl rv h fun A' Ex Q' q => ?_
    obtain ⟨β, γ, k1, k2, k3, x, e1, e2, e3⟩ := bind_da0 (D := Dk) (doc := doc) (pm := pm) (an := an) (cdv := cdv) (ct := ct) (u0 := u0) (uw := .none) (us := us) (by rw [← rv.length]; exact h.1)
    have KX : K.In s.heap := e0.mod.kin.keeps fun b o e => (e0.bs b o e).1
    rw [e1, bind_assoc, bind_assoc]
    refine wpAny_bind ((PySem.W.looks_nsIn KX hu).here ?_)
    show wpAny (model P w) A' (k1 (some Value.none) >>= _) Q' Ex s
    rw [e2, pure_bind, e3]
    exact q
end
section
variable {X : Cx} {k j : Nat} {C : Addr} {sp : Sp} {E : XK} {pos apos kpos : Pos} {o e ke : Expr} {es : List Expr} {ta tw : TE} {t : TA}
def tDa (C : Addr) (sp : Sp) (E : XK) (ta : TE) (t : TA) : TE := fun σ H Q => ta σ H fun x H1 => ∃ a dx fs, x = .ref a ∧ H1 a = some (.ins C dx fs) ∧ fs.lookup ("do_all" : Str) = none ∧ t σ H1 fun vs H2 => daSp sp x .non vs H2 Q E
def tDaK (C : Addr) (sp : Sp) (E : XK) (ta : TE) (t : TA) (tw : TE) : TE := fun σ H Q => ta σ H fun x H1 => ∃ a dx fs, x = .ref a ∧ H1 a = some (.ins C dx fs) ∧ fs.lookup ("do_all" : Str) = none ∧ t σ H1 fun vs H2 => tw σ H2 fun wv H3 => daSp sp x wv vs H3 Q E
def oneV (R : V → Hp → Prop) : List V → Hp → Prop := fun zs H => match zs with
  | [x] => R x H
  | _ => False
theorem oneV_at {R : V → Hp → Prop} {zs : List V} {H : Hp} (h : oneV R zs H) : ∃ x, zs = [x] ∧ R x H := by
  match zs, h with
  | [x], h => exact ⟨x, rfl, h⟩
theorem done_da {pins : List (Addr × Obj)} {σ : L2.St} {H : Hp} {s : Shared} {Q : VK} {f : Value} {args : Args} (hx : Passes (L2N.CX X.prog X.w) X E) (I : Inv X pins σ H s) (h : codeAny (model X.prog X.w) X.A (.call f args) (CR (L2N.CX X.prog X.w) X.stack X.prog X.w H s Q E) s) :
    wpAny (model X.prog X.w) X.A (call f args.pos args.kw) (EP X pins σ Q) X.xe s := by
  refine wpAny_call (codeAny_mono h fun r s' hq => ?_)
  cases r with
  | error e => exact hx pins σ H s e s' I hq
  | ok fl =>
    cases fl with
    | ret u => exact I.after hq
    | next => exact False.elim hq
    | brk => exact False.elim hq
    | cont => exact False.elim hq
theorem pe_da0 {pl : Sem Bool} (D : DAll X.prog X.w X.K X.mg X.base k C sp) (c : Cls X.K C) (hr : Room j X.A) (hk : k ≤ j) (hx : Passes (L2N.CX X.prog X.w) X E) (he : PE X o ta)
    (ht : eval (.Call (.Attribute o "do_all" apos) [] [] pos) X.env = (do
      let ov ← eval o X.env
      standAt apos.atName
      let (f, first) ← holding [ov] (getMethod ov "do_all" pl)
      callWith pos f first (backTo pos (starEach [] X.env)) (backToKw pos (keywordEach [] X.env))) := by rfl) :
    PE X (.Call (.Attribute o "do_all" apos) [] [] pos) (tDa C sp E ta tNil) := by
  obtain ⟨f, hm, _, run⟩ := D.ex
  refine ⟨fun pins s σ H Q I h => ?_⟩
  refine PySem.W.methodCall_KW (pl := pl) (thn (he.run pins s σ H _ I h) fun u s1 ⟨x, H1, I1, rx, a, dx, fs, ex, ea, l, q⟩ => ?_) ht
  subst ex
  obtain rfl : u = Value.ref a := rx
  refine getmeth_ok I1 ea c hm l ?_
  exact PySem.W.callWith_K0 (first := [.ref a]) I1.kIn hm.kp (done_da (args := ⟨[.ref a], []⟩) hx I1 (run X.A X.stack s1 H1 (.ref a) [] (.ref a) [] Q E (hr.mono hk) I1.env0 rfl .nil q))
theorem pe_da {pl : Sem Bool} (D : DAll X.prog X.w X.K X.mg X.base k C sp) (c : Cls X.K C) (hr : Room j X.A) (hk : k ≤ j) (hx : Passes (L2N.CX X.prog X.w) X E) (he : PE X o ta) (ha : PA X (e :: es) t)
    (hst : starEach (e :: es) X.env = (false, eval e X.env) :: starEach es X.env := by rfl) (hpl : (backTo pos (starEach es X.env)).any (·.1) = false := by rfl)
    (ht : eval (.Call (.Attribute o "do_all" apos) (e :: es) [] pos) X.env = (do
      let ov ← eval o X.env
      standAt apos.atName
      let (f, first) ← holding [ov] (getMethod ov "do_all" pl)
      callWith pos f first (backTo pos (starEach (e :: es) X.env)) (backToKw pos (keywordEach [] X.env))) := by rfl) :
    PE X (.Call (.Attribute o "do_all" apos) (e :: es) [] pos) (tDa C sp E ta t) := by
  obtain ⟨f, hm, _, run⟩ := D.ex
  refine ⟨fun pins s σ H Q I h => ?_⟩
  refine PySem.W.methodCall_KW (pl := pl) (thn (he.run pins s σ H _ I h) fun u s1 ⟨x, H1, I1, rx, a, dx, fs, ex, ea, l, q⟩ => ?_) ht
  subst ex
  obtain rfl : u = Value.ref a := rx
  refine getmeth_ok I1 ea c hm l ?_
  refine PySem.W.callWith_K (first := [.ref a]) (h₀ := X.base) I.ok.mod.kin hm.kp (thn (ha.run pos pins s1 σ H1 _ I1 q) fun us s2 ⟨vs, H2, I2, r, q2⟩ => ⟨I2.kIn, ?_⟩) hst hpl
  exact done_da (args := ⟨.ref a :: us, []⟩) hx I2 (run X.A X.stack s2 H2 (.ref a) vs (.ref a) us Q E (hr.mono hk) I2.env0 rfl r q2)
theorem pe_daK0 {pl : Sem Bool} (D : DAll X.prog X.w X.K X.mg X.base k C sp) (c : Cls X.K C) (hr : Room j X.A) (hk : k ≤ j) (hx : Passes (L2N.CX X.prog X.w) X E) (he : PE X o ta) (hw : PE X ke tw)
    (ht : eval (.Call (.Attribute o "do_all" apos) [] [⟨some "watch", ke, kpos⟩] pos) X.env = (do
      let ov ← eval o X.env
      standAt apos.atName
      let (f, first) ← holding [ov] (getMethod ov "do_all" pl)
      callWith pos f first (backTo pos (starEach [] X.env)) (backToKw pos (keywordEach [⟨some "watch", ke, kpos⟩] X.env))) := by rfl) :
    PE X (.Call (.Attribute o "do_all" apos) [] [⟨some "watch", ke, kpos⟩] pos) (tDaK C sp E ta tNil tw) := by
  obtain ⟨f, hm, run, _⟩ := D.ex
  refine ⟨fun pins s σ H Q I h => ?_⟩
  refine PySem.W.methodCall_KW (pl := pl) (thn (he.run pins s σ H _ I h) fun u s1 ⟨x, H1, I1, rx, a, dx, fs, ex, ea, l, q⟩ => ?_) ht
  subst ex
  obtain rfl : u = Value.ref a := rx
  refine getmeth_ok I1 ea c hm l ?_
  refine PySem.W.callWith_KW0 (first := [.ref a]) (h₀ := X.base) I.ok.mod.kin hm.kp (by rfl) (thn ((pk_cons (kpos := kpos) (nm := some "watch") hw pk_nil).run pos pins s1 σ H1 (oneV fun wv H3 => daSp sp (.ref a) wv [] H3 Q E) I1 q) fun ws s2 ⟨zs, H2, I2, rz, q2⟩ => ⟨I2.kIn, ?_⟩) (by rfl)
  obtain ⟨wv, rfl, q3⟩ := oneV_at q2
  obtain ⟨uw, rfl, rw_⟩ := vals1 rz
  exact done_da (args := ⟨[.ref a], [("watch", uw)]⟩) hx I2 (run X.A X.stack s2 H2 (.ref a) wv [] (.ref a) uw [] Q E (hr.mono hk) I2.env0 rfl rw_ .nil q3)
theorem pe_daK {pl : Sem Bool} (D : DAll X.prog X.w X.K X.mg X.base k C sp) (c : Cls X.K C) (hr : Room j X.A) (hk : k ≤ j) (hx : Passes (L2N.CX X.prog X.w) X E) (he : PE X o ta) (ha : PA X (e :: es) t) (hw : PE X ke tw)
    (hst : starEach (e :: es) X.env = (false, eval e X.env) :: starEach es X.env := by rfl) (hpl : (backTo pos (starEach es X.env)).any (·.1) = false := by rfl)
    (ht : eval (.Call (.Attribute o "do_all" apos) (e :: es) [⟨some "watch", ke, kpos⟩] pos) X.env = (do
      let ov ← eval o X.env
      standAt apos.atName
      let (f, first) ← holding [ov] (getMethod ov "do_all" pl)
      callWith pos f first (backTo pos (starEach (e :: es) X.env)) (backToKw pos (keywordEach [⟨some "watch", ke, kpos⟩] X.env))) := by rfl) :
    PE X (.Call (.Attribute o "do_all" apos) (e :: es) [⟨some "watch", ke, kpos⟩] pos) (tDaK C sp E ta t tw) := by
  obtain ⟨f, hm, run, _⟩ := D.ex
  refine ⟨fun pins s σ H Q I h => ?_⟩
  refine PySem.W.methodCall_KW (pl := pl) (thn (he.run pins s σ H _ I h) fun u s1 ⟨x, H1, I1, rx, a, dx, fs, ex, ea, l, q⟩ => ?_) ht
  subst ex
  obtain rfl : u = Value.ref a := rx
  refine getmeth_ok I1 ea c hm l ?_
  refine PySem.W.callWith_KW (first := [.ref a]) (h₀ := X.base) I.ok.mod.kin hm.kp (by rfl) (thn (ha.run pos pins s1 σ H1 _ I1 q) fun us s2 ⟨vs, H2, I2, r, q2⟩ => ?_) ?_ hst
  · refine thn ((pk_cons (kpos := kpos) (nm := some "watch") hw pk_nil).run pos pins s2 σ H2 (oneV fun wv H3 => daSp sp (.ref a) wv vs H3 Q E) I2 q2) fun ws s3 ⟨zs, H3, I3, rz, q3⟩ => ⟨I3.kIn, ?_⟩
    obtain ⟨wv, rfl, q4⟩ := oneV_at q3
    obtain ⟨uw, rfl, rw_⟩ := vals1 rz
    exact done_da (args := ⟨.ref a :: us, [("watch", uw)]⟩) hx I3 (run X.A X.stack s3 H3 (.ref a) wv vs (.ref a) uw us Q E (hr.mono hk) I3.env0 rfl rw_ r q4)
  · rw [hst]
    show ((false || (backTo pos (starEach es X.env)).any (·.1)) || false) = false
    rw [hpl]
    rfl
end
end Pp
-- E4
/-! a lambda that captures, handed to defs that call it: while they run, its cells are told in the heap as they stand -/
namespace Pp
open PySem PySem.Spec PyProof.Rows L2
abbrev Cs := List (Addr × Obj)
def plusC (H : Hp) (cs : Cs) : Hp := fun b => match cs.lookup b with
  | some o => some (ObjO b o)
  | none => H b
def minusC (H : Hp) (cs : Cs) : Hp := fun b => match cs.lookup b with
  | some _ => none
  | none => H b
def HasC (H : Hp) (cs : Cs) : Prop := ∀ b o, cs.lookup b = some o → H b = some (ObjO b o)
section
variable {H H' : Hp} {cs : Cs} {b : Addr} {o : Obj} {u : HO}
theorem plusC_in (h : cs.lookup b = some o) : plusC H cs b = some (ObjO b o) := by unfold plusC; rw [h]
theorem plusC_out (h : cs.lookup b = none) : plusC H cs b = H b := by unfold plusC; rw [h]
theorem minusC_in (h : cs.lookup b = some o) : minusC H cs b = none := by unfold minusC; rw [h]
theorem minusC_out (h : cs.lookup b = none) : minusC H cs b = H b := by unfold minusC; rw [h]
theorem hasC_plus : HasC (plusC H cs) cs := fun _ _ h => plusC_in h
theorem minusC_some (h : minusC H cs b = some u) : H b = some u ∧ cs.lookup b = none := by
  cases e : cs.lookup b with
  | some o => rw [minusC_in e] at h; cases h
  | none => rw [minusC_out e] at h; exact ⟨h, rfl⟩
theorem hasC_out (hc : HasC H cs) (h : H b = some u) (n : ∀ φ, u ≠ .ext φ) : cs.lookup b = none := by
  cases e : cs.lookup b with
  | some o =>
    have := hc b o e
    rw [h] at this
    exact absurd (Option.some.inj this) (n _)
  | none => rfl
theorem free_out (hf : ∀ b o, cs.lookup b = some o → H b = none) (h : H b = some u) : cs.lookup b = none := by
  cases e : cs.lookup b with
  | some o => rw [hf b o e] at h; cases h
  | none => rfl
theorem plusC_minus (hc : HasC H cs) : plusC (minusC H cs) cs = H := by
  funext b
  cases e : cs.lookup b with
  | some o => rw [plusC_in e, hc b o e]
  | none => rw [plusC_out e, minusC_out e]
theorem minusC_plus (hf : ∀ b o, cs.lookup b = some o → H b = none) : minusC (plusC H cs) cs = H := by
  funext b
  cases e : cs.lookup b with
  | some o => rw [minusC_in e, hf b o e]
  | none => rw [minusC_out e, plusC_out e]
theorem td_minus (hc : HasC H cs) : TD H (minusC H cs) := ⟨fun a xs e => by rw [minusC_out (hasC_out hc e (fun _ z => by cases z))]; exact e, fun a xs e => by rw [minusC_out (hasC_out hc e (fun _ z => by cases z))]; exact e⟩
/-- all but the cells is the same -/
theorem minusC_keep (hc : HasC H cs) (h : H b = some u) (n : ∀ φ, u ≠ .ext φ) : minusC H cs b = some u := by rw [minusC_out (hasC_out hc h n)]; exact h
theorem plusC_keep (hf : ∀ b o, cs.lookup b = some o → H b = none) (h : H b = some u) : plusC H cs b = some u := by rw [plusC_out (free_out hf h)]; exact h
end
section
variable {P : Program} {w : World} {H H' H2 : Hp} {h h' : Heap} {cs : Cs} {fs : List Addr}
theorem hok_minus (x : HOk P w H h) (hc : HasC H cs) : HOk P w (minusC H cs) h := fun a o e => by
  obtain ⟨e1, e2⟩ := minusC_some e
  exact (x a o e1).stay (fun b u _ q => q) (fun b q => minusC_keep hc q (fun _ z => by cases z)) fun b xs q => minusC_keep hc q (fun _ z => by cases z)
theorem hok_plus (x : HOk P w H h) (hf : ∀ b o, cs.lookup b = some o → H b = none) (hh : ∀ b o, cs.lookup b = some o → h.get? b = some o) : HOk P w (plusC H cs) h := fun a o e => by
  cases e1 : cs.lookup a with
  | some o1 =>
    rw [plusC_in e1] at e
    cases e
    exact ⟨hh a o1 e1, ⟨o1, hh a o1 e1⟩, fun h1 h2 q st => st _ q⟩
  | none =>
    rw [plusC_out e1] at e
    exact (x a o e).stay (fun b u _ q => q) (fun b q => plusC_keep hf q) fun b xs q => plusC_keep hf q
theorem hok_has (x : HOk P w H h) (hc : HasC H cs) : ∀ b o, cs.lookup b = some o → h.get? b = some o := fun b o e => objO_at x (hc b o e)
/-- run with the cells untracked: tracked again -/
theorem un_again (hc : HasC H cs) (hh : ∀ b o, cs.lookup b = some o → h.get? b = some o) (u : Un fs [] (minusC H cs) H' h h') : Un fs [] H (plusC H' cs) h h' where
  keep := fun b o e n hb hx => by
    have hn : cs.lookup b = none := by
      cases q : cs.lookup b with
      | some o' => rw [hc b o' q] at n; cases n
      | none => rfl
    exact u.keep b o e (by rw [minusC_out hn]; exact n) hb hx
  slot := fun b o e n hb hx => by
    have hn : cs.lookup b = none := by
      cases q : cs.lookup b with
      | some o' => rw [hc b o' q] at n; cases n
      | none => rfl
    exact u.slot b o e (by rw [minusC_out hn]; exact n) hb hx
  free := fun b o e n hx => by
    have hn : cs.lookup b = none := by
      cases q : cs.lookup b with
      | some o' => rw [hc b o' q] at n; cases n
      | none => rfl
    rw [plusC_out hn]
    exact u.free b o e (by rw [minusC_out hn]; exact n) hx
  there := u.there
  tups := fun b xs e => by
    have hn := hasC_out hc e (fun _ z => by cases z)
    rw [plusC_out hn]
    exact u.tups b xs (by rw [minusC_out hn]; exact e)
  frzs := fun b o xs e => by
    have hn := hasC_out hc e (fun _ z => by cases z)
    rw [plusC_out hn]
    exact u.frzs b o xs (by rw [minusC_out hn]; exact e)
  tbls := fun b ps e => by
    have hn := hasC_out hc e (fun _ z => by cases z)
    rw [plusC_out hn]
    exact u.tbls b ps (by rw [minusC_out hn]; exact e)
/-- run with the cells tracked: untracked again -/
theorem un_less (hf : ∀ b o, cs.lookup b = some o → H b = none) (hh : ∀ b o, cs.lookup b = some o → h.get? b = some o) (hh' : ∀ b o, cs.lookup b = some o → h'.get? b = some o) (u : Un fs [] (plusC H cs) H' h h') : Un fs [] H (minusC H' cs) h h' where
  keep := fun b o e n hb hx => by
    cases q : cs.lookup b with
    | some o' =>
      have := hh b o' q
      rw [e] at this
      cases this
      exact hh' b o q
    | none => exact u.keep b o e (by rw [plusC_out q]; exact n) hb hx
  slot := fun b o e n hb hx => by
    cases q : cs.lookup b with
    | some o' =>
      have := hh b o' q
      rw [e] at this
      cases this
      exact ⟨o.slots, hh' b o q⟩
    | none => exact u.slot b o e (by rw [plusC_out q]; exact n) hb hx
  free := fun b o e n hx => by
    cases q : cs.lookup b with
    | some o' => exact minusC_in q
    | none => rw [minusC_out q]; exact u.free b o e (by rw [plusC_out q]; exact n) hx
  there := u.there
  tups := fun b xs e => by
    have hn := free_out hf e
    rw [minusC_out hn]
    exact u.tups b xs (by rw [plusC_out hn]; exact e)
  frzs := fun b o xs e => by
    have hn := free_out hf e
    rw [minusC_out hn]
    exact u.frzs b o xs (by rw [plusC_out hn]; exact e)
  tbls := fun b ps e => by
    have hn := free_out hf e
    rw [minusC_out hn]
    exact u.tbls b ps (by rw [plusC_out hn]; exact e)
end
section
variable {P : Program} {w : World} {K : PySem.W.Frag} {mg : Str → Option Value} {base : Heap} {A : Around} {outer : List Env} {s s' : Shared} {H : Hp} {cs : Cs}
theorem env0_minus (e0 : Env0 P w K mg base A outer s H) (hc : HasC H cs) : Env0 P w K mg base A outer s (minusC H cs) := by
  have ln : ∀ b, H b = none → minusC H cs b = none := fun b n => by
    cases q : cs.lookup b with
    | some o => exact minusC_in q
    | none => rw [minusC_out q]; exact n
  exact ⟨e0.frames, e0.mod, fun b o e => ⟨(e0.bs b o e).1, ln b (e0.bs b o e).2⟩, e0.bsz, e0.funs, fun b hb => ln b (e0.frf b hb), hok_minus e0.hok hc, e0.bare⟩
theorem env0_plus (e0 : Env0 P w K mg base A outer s H) (hf : ∀ b o, cs.lookup b = some o → H b = none) (hh : ∀ b o, cs.lookup b = some o → s.heap.get? b = some o) (hb : ∀ b o, cs.lookup b = some o → base.get? b = none) (hn : ∀ b o, cs.lookup b = some o → b ∉ frs outer) :
    Env0 P w K mg base A outer s (plusC H cs) := by
  refine ⟨e0.frames, e0.mod, fun b o e => ⟨(e0.bs b o e).1, ?_⟩, e0.bsz, e0.funs, fun b hb' => ?_, hok_plus e0.hok hf hh, e0.bare⟩
  · cases q : cs.lookup b with
    | some o' => rw [hb b o' q] at e; cases e
    | none => rw [plusC_out q]; exact (e0.bs b o e).2
  · cases q : cs.lookup b with
    | some o' => exact absurd hb' (hn b o' q)
    | none => rw [plusC_out q]; exact e0.frf b hb'
theorem ce_again {Q Q' : VK} {u : Value} (hc : HasC H cs) (hh : ∀ b o, cs.lookup b = some o → s.heap.get? b = some o) (hn : ∀ b o, cs.lookup b = some o → b ∉ frs outer) (q : ∀ v H', (∀ b o, cs.lookup b = some o → H' b = none) → Q' v H' → Q v (plusC H' cs)) (c : CE outer P w (minusC H cs) s Q' u s') : CE outer P w H s Q u s' := by
  obtain ⟨v, H', os, bare, un, hok, r, h⟩ := c
  have hf : ∀ b o, cs.lookup b = some o → H' b = none := fun b o e => un.free b o (hh b o e) (minusC_in e) (by simp)
  refine ⟨v, plusC H' cs, os, bare, un_again hc hh un, hok_plus hok hf (fun b o e => un.keep b o (hh b o e) (minusC_in e) (hn b o e) (by simp)), r, q _ _ hf h⟩
theorem ce_less {Q Q' : VK} {u : Value} (hf : ∀ b o, cs.lookup b = some o → H b = none) (hh : ∀ b o, cs.lookup b = some o → s.heap.get? b = some o) (q : ∀ v H', Q' v H' → HasC H' cs ∧ Q v (minusC H' cs)) (c : CE outer P w (plusC H cs) s Q' u s') : CE outer P w H s Q u s' := by
  obtain ⟨v, H', os, bare, un, hok, r, h⟩ := c
  obtain ⟨hc, h2⟩ := q _ _ h
  exact ⟨v, minusC H' cs, os, bare, un_less hf hh (hok_has hok hc) un, hok_minus hok hc, r, h2⟩
/-- what a call may let out, with the cells tracked or not -/
structure CxC (P : Program) (w : World) (cx : CXT) : Prop where
  again : ∀ (outer : List Env) (H : Hp) (s : Shared) (cs : Cs) (E : XK) (e : Value) (s' : Shared), HasC H cs → (∀ b o, cs.lookup b = some o → s.heap.get? b = some o) → (∀ b o, cs.lookup b = some o → b ∉ frs outer) → cx outer (minusC H cs) s (fun cls d H' => (∀ b o, cs.lookup b = some o → H' b = none) → E cls d (plusC H' cs)) e s' → cx outer H s E e s'
  less : ∀ (outer : List Env) (H : Hp) (s : Shared) (cs : Cs) (E : XK) (e : Value) (s' : Shared), (∀ b o, cs.lookup b = some o → H b = none) → (∀ b o, cs.lookup b = some o → s.heap.get? b = some o) → cx outer (plusC H cs) s (fun cls d H' => HasC H' cs ∧ E cls d (minusC H' cs)) e s' → cx outer H s E e s'
theorem cxC_0 : CxC P w CX0 := ⟨fun _ _ _ _ _ _ _ _ _ _ z => z.elim, fun _ _ _ _ _ _ _ _ _ z => z.elim⟩
theorem cxC_N : CxC P w (L2N.CX P w) where
  again := by
    rintro outer H s cs E e s' hc hh hn ⟨a, B, H', cls, d, ea, fl, hok, ub, na, os, ag, he⟩
    have hB : ∀ b o, cs.lookup b = some o → B.get? b = some o := fun b o q => ub.keep b o (hh b o q) (minusC_in q) (hn b o q)
    have out : ∀ b, H b = none → cs.lookup b = none := fun b n => by
      cases q : cs.lookup b with
      | some o' => rw [hc b o' q] at n; cases n
      | none => rfl
    refine ⟨a, B, plusC H' cs, cls, d, ea, fl, hok_plus hok (fun b o q => ub.free b o (hh b o q) (minusC_in q)) hB, ⟨fun b o q n hb => ub.keep b o q (by rw [minusC_out (out b n)]; exact n) hb, ub.slot, fun b o q n => ?_, ub.there, fun b xs q => ?_, fun b o xs q => ?_, fun b ps q => ?_⟩, ?_, os, ag, he fun b o q => ub.free b o (hh b o q) (minusC_in q)⟩
    · rw [plusC_out (out b n)]
      exact ub.free b o q (by rw [minusC_out (out b n)]; exact n)
    · have hn := hasC_out hc q (fun _ z => by cases z)
      rw [plusC_out hn]
      exact ub.tups b xs (by rw [minusC_out hn]; exact q)
    · have hn := hasC_out hc q (fun _ z => by cases z)
      rw [plusC_out hn]
      exact ub.frzs b o xs (by rw [minusC_out hn]; exact q)
    · have hn := hasC_out hc q (fun _ z => by cases z)
      rw [plusC_out hn]
      exact ub.tbls b ps (by rw [minusC_out hn]; exact q)
    · cases q : cs.lookup a with
      | some o =>
        have h1 := hB a o q
        rw [fl.2.1] at h1
        cases h1
      | none => rw [plusC_out q]; exact na
  less := by
    rintro outer H s cs E e s' hf hh ⟨a, B, H', cls, d, ea, fl, hok, ub, na, os, ag, hc, he⟩
    refine ⟨a, B, minusC H' cs, cls, d, ea, fl, hok_minus hok hc, ⟨fun b o q n hb => ?_, ub.slot, fun b o q n => ?_, ub.there, fun b xs q => ?_, fun b o xs q => ?_, fun b ps q => ?_⟩, ?_, os, ag, he⟩
    · cases q2 : cs.lookup b with
      | some o' =>
        have := hh b o' q2
        rw [q] at this
        cases this
        exact objO_at hok (hc b o q2)
      | none => exact ub.keep b o q (by rw [plusC_out q2]; exact n) hb
    · cases q2 : cs.lookup b with
      | some o' => exact minusC_in q2
      | none => rw [minusC_out q2]; exact ub.free b o q (by rw [plusC_out q2]; exact n)
    · have hn := free_out hf q
      rw [minusC_out hn]
      exact ub.tups b xs (by rw [plusC_out hn]; exact q)
    · have hn := free_out hf q
      rw [minusC_out hn]
      exact ub.frzs b o xs (by rw [plusC_out hn]; exact q)
    · have hn := free_out hf q
      rw [minusC_out hn]
      exact ub.tbls b ps (by rw [plusC_out hn]; exact q)
    · cases q : cs.lookup a with
      | some o => exact minusC_in q
      | none => rw [minusC_out q]; exact na
end
/-! the cells of a closure -/
structure LamK (cl : List (Str × Addr)) (fr : List Str) (ws : List (Option V)) (cs : Cs) : Prop where
  len : ws.length = fr.length
  inj : ∀ x y c, cl.lookup x = some c → cl.lookup y = some c → x = y
  all : ∀ y c, cl.lookup y = some c → ∃ o v, cs.lookup c = some o ∧ o.data = .cell v
  has : ∀ (i : Nat) (y : Str), fr[i]? = some y → ∃ c, cl.lookup y = some c ∧ ∀ v, ws[i]? = some (some v) → ∃ o u, cs.lookup c = some o ∧ o.data = .cell (some u) ∧ RelV v u
theorem LamK.cells {P : Program} {w : World} {cl : List (Str × Addr)} {fr : List Str} {ws : List (Option V)} {cs : Cs} {H : Hp} {h : Heap} (L : LamK cl fr ws cs) (hc : HasC H cs) (x : HOk P w H h) : NdefX.CellsAt cl fr ws h (minusC H cs) where
  len := L.len
  all := fun y c e => by
    obtain ⟨o, v, e1, e2⟩ := L.all y c e
    exact ⟨minusC_in e1, v, o, objO_at x (hc c o e1), e2⟩
  inj := L.inj
  has := fun i y e => by
    obtain ⟨c, e1, h1⟩ := L.has i y e
    refine ⟨c, e1, fun v ev => ?_⟩
    obtain ⟨o, u, e2, e3, r⟩ := h1 v ev
    exact ⟨u, r, o, objO_at x (hc c o e2), e3⟩
theorem look_fm {h : Heap} : ∀ {l : List (Str × Addr)} {c : Addr} {o : Obj}, (l.filterMap fun q => (h.get? q.2).map fun o => (q.2, o)).lookup c = some o → h.get? c = some o ∧ ∃ y, (y, c) ∈ l
  | [], c, o, e => by cases e
  | (y, c') :: l, c, o, e => by
    rw [List.filterMap_cons] at e
    cases q : h.get? c' with
    | none =>
      simp only [q] at e
      obtain ⟨h1, z, h2⟩ := look_fm (l := l) e
      exact ⟨h1, z, List.mem_cons_of_mem _ h2⟩
    | some o' =>
      simp only [q] at e
      rw [show Option.map (fun o => (c', o)) (some o') = some (c', o') from rfl] at e
      rw [List.lookup_cons] at e
      by_cases z : c = c'
      · subst z
        simp at e
        rw [← e]
        exact ⟨q, y, List.mem_cons_self⟩
      · have z' : (c == c') = false := by simpa using z
        rw [z'] at e
        obtain ⟨h1, z, h2⟩ := look_fm (l := l) e
        exact ⟨h1, z, List.mem_cons_of_mem _ h2⟩
theorem look_in {h : Heap} {c : Addr} {o : Obj} (ho : h.get? c = some o) : ∀ {l : List (Str × Addr)} {y : Str}, (y, c) ∈ l → (l.filterMap fun q => (h.get? q.2).map fun o => (q.2, o)).lookup c = some o
  | [], y, e => by cases e
  | (y', c') :: l, y, e => by
    rw [List.filterMap_cons]
    by_cases z : c = c'
    · subst z
      simp only [ho]
      rw [show Option.map (fun o => (c, o)) (some o) = some (c, o) from rfl]
      rw [List.lookup_cons]
      simp
    · have e' : (y, c) ∈ l := by
        rcases List.mem_cons.mp e with e | e
        · cases e; exact absurd rfl z
        · exact e
      have ih := look_in ho e'
      have z' : (c == c') = false := by simpa using z
      cases q : h.get? c' with
      | none =>
        simp only [q, Option.map_none]
        exact ih
      | some o' =>
        simp only [q]
        rw [show Option.map (fun o => (c', o)) (some o') = some (c', o') from rfl, List.lookup_cons, z']
        exact ih
/-- the cells that a closure's names have in the state -/
def cellsIn (cl : List (Str × Addr)) (h : Heap) : Cs := cl.filterMap fun q => (h.get? q.2).map fun o => (q.2, o)
theorem lamK_of {cl : List (Str × Addr)} {fr : List Str} {ws : List (Option V)} {H : Hp} {h : Heap} (C : NdefX.CellsAt cl fr ws h H) : LamK cl fr ws (cellsIn cl h) where
  len := C.len
  inj := C.inj
  all := fun y c e => by
    obtain ⟨_, v, o, ho, hd⟩ := C.all y c e
    exact ⟨o, v, look_in ho (PySem.mem_of_lookup e), hd⟩
  has := fun i y e => by
    obtain ⟨c, e1, h1⟩ := C.has i y e
    refine ⟨c, e1, fun v ev => ?_⟩
    obtain ⟨u, r, o, ho, hd⟩ := h1 v ev
    exact ⟨o, u, look_in ho (PySem.mem_of_lookup e1), hd, r⟩
end Pp
-- E5
namespace Pp
open PySem PySem.Spec PyProof.Rows L2 NdefX LamX
/-! the lambda's own promise -/
def lamO (F : NF) (body : Expr) (pm ctv : Value) : Obj := PySem.W.kla_obj "<lambda>" F.qual F.params body F.scope F.cl pm F.c ctv
/-- what its call asks and gives -/
def lamSp (N ps : List Str) (F : NF) (body : Expr) (f : Addr) (pm ctv : Value) (ws : List (Option V)) (cs : Cs) (t : XK → TE) : Sp := fun vs H Q E => vs.length = ps.length ∧ HasC H cs ∧ H f = some (ObjO f (lamO F body pm ctv)) ∧ H F.c = some (CodeO F.c F.qual) ∧
  t (fun cls d H' => (∀ b o, cs.lookup b = some o → H' b = none) → E cls d (plusC H' cs)) (startF N vs ws) (minusC H cs) (fun v H' => (∀ b o, cs.lookup b = some o → H' b = none) → Q v (plusC H' cs))
section
variable {P : Program} {w : World} {K : PySem.W.Frag} {mg : Str → Option Value} {base : Heap}
theorem lam_fnR {cx : CXT} {N ps fr : List Str} {F : NF} {body : Expr} {f : Addr} {pm ctv : Value} {ws : List (Option V)} {cs : Cs} {t : XK → TE} {k : Nat} (cxc : CxC P w cx) (S : NScope N ps fr F.scope)
    (hb : ∀ us : List Value, us.length = ps.length → bindArgs (PySem.W.kla_fn "<lambda>" F.qual F.params body F.scope F.cl pm (.ref F.c) ctv) ⟨us, []⟩ = pure (ps.zip us)) (L : LamK F.cl fr ws cs)
    (hbody : ∀ (A : Around) (outer : List Env) (s : Shared) (H : Hp) (E : XK), Room k (A.deeper (envF F f s.heap.objs.size)) → PE (ncx cx P w K mg base N F f A outer s H E) body (t E)) : FnR P w K mg base cx (k + 1) f (lamSp N ps F body f pm ctv ws cs t) := by
  intro A outer s H us vs Q E hr e0 r ⟨hl, hc, hf, hco, ht⟩
  have hh := hok_has e0.hok hc
  have hn : ∀ b o, cs.lookup b = some o → b ∉ frs outer := fun b o e hb => by
    have := hc b o e
    rw [e0.frf b hb] at this
    cases this
  have lim : s.heap.NoLimit := e0.mod.nolimit.keeps fun b o e => (e0.bs b o e).1
  have ho := objO_at e0.hok hf
  refine codeAny_mono (R := CR cx outer P w (minusC H cs) s (fun v H' => (∀ b o, cs.lookup b = some o → H' b = none) → Q v (plusC H' cs)) (fun cls d H' => (∀ b o, cs.lookup b = some o → H' b = none) → E cls d (plusC H' cs))) ?_ fun rr s' hq => ?_
  · refine PySem.W.kla_callFunE hr.depth ho rfl S.co S.gen rfl (codeO_at e0.hok hco) ?_
    rw [hb us (by rw [← r.length]; exact hl)]
    refine wpAny_pure (wpAny_newFunctionEnv S.nocell (fun ⟨n, _⟩ hy => S.par n (List.of_mem_zip hy).1) (fun h₁ hns hsb => ⟨lim.fresh _ hsb, ?_⟩) S.kind)
    show codeAny _ _ (.expr body (envF F f s.heap.objs.size)) _ _
    have kp : ∀ b o, s.heap.get? b = some o → h₁.get? b = some o := fun b o e => hsb.extBut b o (Nat.ne_of_lt (Heap.lt_size e)) (Heap.get?_push_of_some _ e)
    have J : Inv (ncx cx P w K mg base N F f A outer s (minusC H cs) (fun cls d H' => (∀ b o, cs.lookup b = some o → H' b = none) → E cls d (plusC H' cs))) [] (startF N vs ws) (minusC H cs) { s with heap := h₁, toks := s.toks + (ps.zip us).length } := inv_startN S hr.hd (env0_minus e0 hc) hl r (L.cells hc e0.hok) hns kp
    refine PySem.W.kla_codeExpr (wpAny_mono ((hbody A outer s (minusC H cs) _ (hr.deeper _)).run [] _ _ _ _ J ht) (fun v s' hq => ?_) fun e s' hq => hq)
    obtain ⟨w', H', J', rv, q⟩ := hq
    exact ⟨w', H', J'.os, J'.bare, J'.base, J'.hok, rv, q⟩
  · cases rr with
    | error e => exact cxc.again outer H s cs E e s' hc hh hn hq
    | ok fl =>
      cases fl with
      | ret u => exact ce_again hc hh hn (fun _ _ hf q => q hf) hq
      | next => exact hq
      | brk => exact hq
      | cont => exact hq
end
/-! the lambda is made: known from now on -/
section
variable {X : Cx} {pins : List (Addr × Obj)} {σ : L2.St} {H : Hp} {s : Shared}
theorem lam_mk {T : List (Addr × Str)} {c P : Addr} {params : Arguments} {body : Expr} {scope : Scope} {pos : Pos} {E : Value → Shared → Prop} {Q : Value → Shared → Prop} (I : Inv X pins σ H s) (TB : TabB X.base X.mg c P) (hcode : X.env.code = .ref c)
    (hm : (P, X.env.qual ++ "<lambda>") ∈ T) (hu : ∀ p ∈ T, p.1 = P → p.2 = X.env.qual ++ "<lambda>") (hT : Tabs T H) (hdef : defaultsOf params X.env = ([], [])) (hfree : ∀ y ∈ scope.names, y.2 = .free → ∃ c, X.env.cells.lookup y.1 = some c)
    (h : ∀ (f c' : Addr) (pm ctv : Value) (H1 : Hp) (s' : Shared), Inv X pins σ H1 s' → ExtN H H1 → Tabs T H1 → H f = none → H1 f = some (ObjO f (PySem.W.kla_obj "<lambda>" (X.env.qual ++ "<lambda>") params body scope (cloFrom X.env.cells scope.names []) pm c' ctv)) →
      H1 c' = some (CodeO c' (X.env.qual ++ "<lambda>")) → Q (.ref f) s') :
    wpAny (model X.prog X.w) X.A (eval (.Lambda params body scope pos) X.env) Q E s := by
  obtain ⟨ps, hP, ht, ha⟩ := hT _ hm
  refine PySem.W.kla_eval hdef ?_
  have bP : s.heap.BuiltinsAt X.mg P := TB.bm.keeps I.bk
  have hP' : s.heap.get? P = some { cls := .none, data := .fields ps } := I.hok P _ hP
  -- the function object is told
  have fin : ∀ {H1 : Hp} {h' : Heap} {tk : Nat} {c' : Addr} {pm ctv : Value}, Inv X pins σ H1 { s with heap := h', toks := tk } → ExtN H H1 → Tabs T H1 → s.heap.objs.size ≤ h'.objs.size → H1 c' = some (CodeO c' (X.env.qual ++ "<lambda>")) →
      Q (.ref h'.objs.size) { s with heap := h'.push (PySem.W.kla_obj "<lambda>" (X.env.qual ++ "<lambda>") params body scope (cloFrom X.env.cells scope.names []) pm c' ctv), toks := tk } := by
    intro H1 h' tk c' pm ctv I1 eN T1 hsz hco
    have nf : H1 h'.objs.size = none := I1.hok.fresh (Nat.le_refl _)
    have I2 : Inv X pins σ (upd H1 h'.objs.size (ObjO h'.objs.size (PySem.W.kla_obj "<lambda>" (X.env.qual ++ "<lambda>") params body scope (cloFrom X.env.cells scope.names []) pm c' ctv))) { s with heap := h'.push (PySem.W.kla_obj "<lambda>" (X.env.qual ++ "<lambda>") params body scope (cloFrom X.env.cells scope.names []) pm c' ctv), toks := tk } :=
      I1.laid (t' := tk) (fun b o e => Heap.get?_push_of_some _ e) (Nat.le_refl _) ⟨Heap.get?_push_size _ rfl, ⟨_, Heap.get?_push_size _ rfl⟩, fun h1 h2 q st => st _ q⟩
    have S : Same H1 (upd H1 h'.objs.size (ObjO h'.objs.size (PySem.W.kla_obj "<lambda>" (X.env.qual ++ "<lambda>") params body scope (cloFrom X.env.cells scope.names []) pm c' ctv))) := same_new nf
    exact h h'.objs.size c' pm ctv _ _ I2 (eN.trans (ExtN.of S)) (T1.ext S) (I.hok.fresh hsz) upd_same (S _ _ hco)
  cases hc : codeAmong pos ps.toList with
  | none =>
    refine PySem.W.kla_makeFunction (mg := X.mg) (c := c) (P := P) (ps := ps) (closure_ok hfree) I.ok.glob (I.mod.glob.keeps I.bk) hcode (TB.code.keeps I.bk) hP' ht hc TB.gP bP fun c' ctv h' tk hx hge hlt hrec htb => ?_
    obtain ⟨c2, oc, vs, t, e2, hoc, hd, hv⟩ := hrec
    cases e2
    have hsz : s.heap.objs.size ≤ h'.objs.size := Nat.le_trans hge (Nat.le_of_lt hlt)
    have nC : H c' = none := I.hok.fresh hge
    have I1 := inv_table (t' := tk) (q := X.env.qual ++ "<lambda>") (more := #[rawInt pos.line, rawInt pos.col, .ref c']) (h' := h') I hP (fun b o hb e => hx b o hb e) htb hge ⟨oc, vs, t, hoc, hd, hv⟩
    have hE : ExtN H (upd (upd H P (.tbl (ps ++ #[rawInt pos.line, rawInt pos.col, .ref c']))) c' (CodeO c' (X.env.qual ++ "<lambda>"))) := fun b o e n => by
      rw [upd_ne (ne_of_none e nC), upd_ne (fun z => n ps (Option.some.inj (e.symm.trans (by rw [z]; exact hP))))]
      exact e
    have eL : (ps ++ #[rawInt pos.line, rawInt pos.col, .ref c']).toList = ps.toList ++ [rawInt pos.line, rawInt pos.col, .ref c'] := by simp
    refine fin I1 hE (fun p hp => ?_) hsz upd_same
    by_cases hb : p.1 = P
    · rw [hu p hp hb, hb]
      refine ⟨_, by rw [upd_ne (ne_of_none hP nC), upd_same], by rw [eL]; exact PySem.TriplesOk_snoc _ _ _ _ ht, fun p' cv hcv => ?_⟩
      rw [eL] at hcv
      rcases among_app _ ht hcv with z | z
      · obtain ⟨c0, e1, e2⟩ := ha p' cv z
        exact ⟨c0, e1, hE _ _ e2 codeO_ne⟩
      · exact ⟨c', z, upd_same⟩
    · obtain ⟨ps', a1, a2, a3⟩ := hT p hp
      refine ⟨ps', by rw [upd_ne (ne_of_none a1 nC), upd_ne hb]; exact a1, a2, fun p' cv hcv => ?_⟩
      obtain ⟨c0, e1, e2⟩ := a3 p' cv hcv
      exact ⟨c0, e1, hE _ _ e2 codeO_ne⟩
  | some cv =>
    obtain ⟨c', e, hco⟩ := ha pos cv hc
    subst e
    refine PySem.W.kla_makeFunctionHit (mg := X.mg) (c := c) (P := P) (ps := ps) (closure_ok hfree) I.ok.glob (I.mod.glob.keeps I.bk) hcode (TB.code.keeps I.bk) hP' ht hc bP fun ctv h' tk hx hsz => ?_
    exact fin (I.kept fun b o e => hx b o e) (ExtN.refl H) hT hsz hco
end
def tLamE (T : List (Addr × Str)) (q : Str) (params : Arguments) (body : Expr) (scope : Scope) (cl : List (Str × Addr)) : TE := fun σ H Q => Tabs T H ∧ ∀ (f c' : Addr) (pm ctv : Value) (H1 : Hp), ExtN H H1 → Tabs T H1 → H f = none →
  H1 f = some (ObjO f (lamO ⟨"<lambda>", q, params, [], scope, cl, c'⟩ body pm ctv)) → H1 c' = some (CodeO c' q) → Q (.ref f) H1
section
variable {X : Cx} {cx : CXT} {k j : Nat} {x : Str} {ps : List Str} {sp : Sp} {E : XK} {p pos : Pos} {e : Expr} {es : List Expr} {t : TA}
theorem pe_lamE {T : List (Addr × Str)} {c P : Addr} {params : Arguments} {body : Expr} {scope : Scope} {q : Str} (TB : TabB X.base X.mg c P) (hcode : X.env.code = .ref c) (hq : X.env.qual ++ "<lambda>" = q) (hm : (P, q) ∈ T) (hu : ∀ p ∈ T, p.1 = P → p.2 = q)
    (hfree : ∀ y ∈ scope.names, y.2 = .free → X.env.scope.names.lookup y.1 = some .cell ∨ X.env.scope.names.lookup y.1 = some .free) (hdef : defaultsOf params X.env = ([], []) := by rfl) :
    PE X (.Lambda params body scope pos) (tLamE T q params body scope (cloFrom X.env.cells scope.names [])) := by
  subst hq
  refine ⟨fun pins s σ H Q I h => ?_⟩
  obtain ⟨hT, h⟩ := h
  refine lam_mk I TB hcode hm hu hT hdef (fun y hy e => (hfree y hy e).elim (fun z => I.ok.has _ (.inl z)) fun z => I.ok.has _ (.inr z)) fun f c' pm ctv H1 s' I1 eN T1 hf hfn hco => ?_
  exact ⟨.ref f, H1, I1, rfl, h f c' pm ctv H1 eN T1 hf hfn hco⟩
/-- a def called while the cells that a lambda captured are told -/
def tCallC (cl : List (Str × Addr)) (fr : List Str) (js : List Nat) (sp : Sp) (E : XK) (t : TA) : TE := fun σ H Q => t σ H fun vs H1 => ∀ cs : Cs, LamK cl fr (js.map (slotAt σ)) cs → (∀ c o, cs.lookup c = some o → H1 c = none) →
  sp vs (plusC H1 cs) (fun v H2 => HasC H2 cs ∧ Q v (minusC H2 cs)) (fun cls d H2 => HasC H2 cs ∧ E cls d (minusC H2 cs))
theorem pe_callC {fr : List Str} {js : List Nat} {scope : Scope} (D : Dn X.prog X.w X.K X.mg X.base cx k x ps sp) (cxc : CxC X.prog X.w cx) (hr : Room j X.A) (hk : k ≤ j) (hg : Gl X x) (hx : Passes cx X E) (ha : PA X (e :: es) t)
    (hfree : ∀ y ∈ scope.names, y.2 = .free → X.env.scope.names.lookup y.1 = some .cell ∨ X.env.scope.names.lookup y.1 = some .free) (hfr : ∀ y ∈ fr, (y, NameKind.free) ∈ scope.names) (hjs : js.map (fun j => X.N[j]?) = fr.map some) (hst : X.stack = X.env :: X.outer) (hfn : ∀ y, X.fn y = true)
    (hdb : (x == ("__debug__" : Str)) = false := by decide) (he : starEach (e :: es) X.env = (false, eval e X.env) :: starEach es X.env := by rfl) (hpl : (backTo pos (starEach es X.env)).any (·.1) = false := by rfl) :
    PE X (.Call (.Name x p) (e :: es) [] pos) (tCallC (cloFrom X.env.cells scope.names []) fr js sp E t) := by
  obtain ⟨g, fd, F, hm, kp, b⟩ := D.ex
  refine ⟨fun pins s σ H Q I h => ?_⟩
  refine wpAny_Call_Name_kw (ld_glob I hg hm ?_ hdb)
  refine PySem.W.callWith_K (h₀ := X.base) I.ok.mod.kin kp (thn (ha.run pos pins s σ H _ I h) fun us s1 ⟨vs, H1, I1, r, q⟩ => ⟨I1.kIn, ?_⟩) he hpl
  have cp := Caps.made (scope := scope) I1.ok hfree hfr hjs
  have L := lamK_of (cells_of I1 cp)
  have hfree' : ∀ y ∈ scope.names, y.2 = .free → ∃ c, X.env.cells.lookup y.1 = some c := fun y hy e => (hfree y hy e).elim (fun z => I.ok.has _ (.inl z)) fun z => I.ok.has _ (.inr z)
  have mem : ∀ c o, (cellsIn (cloFrom X.env.cells scope.names []) s1.heap).lookup c = some o → s1.heap.get? c = some o ∧ ∃ y, X.env.cells.lookup y = some c := fun c o e => by
    obtain ⟨h1, y, hy⟩ := look_fm e
    refine ⟨h1, y, ?_⟩
    rcases cloFrom_mem hy with z | ⟨z1, z2⟩
    · cases z
    · obtain ⟨c1, hc⟩ := hfree' _ z1 rfl
      have hc : X.env.cells.lookup y = some c1 := hc
      have e2 : c = c1 := by
        rw [z2, hc] <;> rfl
      rw [e2]
      exact hc
  generalize cellsIn (cloFrom X.env.cells scope.names []) s1.heap = cs at L mem
  have hf : ∀ c o, cs.lookup c = some o → H1 c = none := fun c o e => let ⟨_, y, z⟩ := mem c o e; I1.freeC y c z
  have hh : ∀ c o, cs.lookup c = some o → s1.heap.get? c = some o := fun c o e => (mem c o e).1
  have hbs : ∀ c o, cs.lookup c = some o → X.base.get? c = none := fun c o e => by
    obtain ⟨_, y, z⟩ := mem c o e
    have h1 := I1.ok.cab y c (hfn y) z
    exact Heap.get?_none_of_le (Nat.le_trans I1.ok.bsz h1)
  have hnf : ∀ c o, cs.lookup c = some o → c ∉ frs X.stack := fun c o e hb => by
    obtain ⟨e1, y, z⟩ := mem c o e
    obtain ⟨v, oc, ho, hd⟩ := I1.cell y c z
    rcases List.mem_cons.mp (I1.stkSub c hb) with e2 | hb2
    · exact I1.cne y c z e2
    · have h1 := I1.ok.cab y c (hfn y) z
      obtain ⟨_, o', ho', _⟩ := I1.ok.funs.mem hb2
      exact absurd (Nat.lt_of_lt_of_le (Heap.lt_size ho') h1) (Nat.lt_irrefl _)
  have q' := q cs L hf
  have hl : us.length = ps.length := by rw [← r.length]; exact F.len _ _ _ _ q'
  have bb := b s1 us I1.kIn (by rw [List.append_nil]; exact hl)
  rw [List.append_nil] at bb
  refine wpAny_call (codeAny_mono (F.run X.A X.stack s1 (plusC H1 cs) ⟨us, []⟩ us vs _ _ (hr.mono hk) (env0_plus I1.env0 hf hh hbs hnf) bb r q') fun rr s' hq => ?_)
  cases rr with
  | error e => exact hx pins σ H1 s1 e s' I1 (cxc.less X.stack H1 s1 cs E e s' hf hh hq)
  | ok fl =>
    cases fl with
    | ret u => exact I1.after (ce_less hf hh (fun _ _ z => z) hq)
    | next => exact False.elim hq
    | brk => exact False.elim hq
    | cont => exact False.elim hq
end
end Pp
-- F1
namespace Pp
namespace Qs
open PySem PySem.Spec PyProof.Rows PySem.SeqAt
section
variable {prog : Program} {w : World} {A : Around} {E : Value → Shared → Prop} {s : Shared} {K : PySem.W.Frag} {x C : Addr} {ox : Obj} {od : Option Obj}
/-- an instance without an __eq__ of its own, compared with itself -/
theorem rc_self (hu : A.units < cLine) (X : K.In s.heap) (I : PySem.W.InstAt s.heap x ox C od) (hm : PySem.W.mroIn K C (.type "object") = some true) (hs : PySem.W.findIn K (.ref C) "__eq__" = some (some (.builtin "object.__eq__"))) : RcAt A s (.ref x) (.ref x) true := fun prog w E Q h => by
  have one : wpAny (model prog w) A (tryCompare (.ref x) "__eq__" (.ref x)) (fun r s' => r = some (.bool true) ∧ s' = s) E s := by
    unfold tryCompare
    exact wpAny_bind (HN.ifBound_objEq X I hs (wpAny_call (codeAny_call_builtin F.cmp_object.eq.plain F.cmpEntry_eq (PySem.W.check_slot F.cmpKind_eq F.cmpSplit_eq (I.type.andThen (PySem.W.looks_mroIn X hm)) (F.cmpArgs_eq _ _) (objEq_entry_same (wpAny_pure ⟨rfl, rfl⟩))))))
  simp only [richCompare, cmpInfo_Eq, oneThing_ref]
  refine wpAny_holding (wpAny_bind (wpAny_cRoomFor hu ?_))
  refine wpAny_bind (I.type.here ?_)
  refine wpAny_bind (I.type.here ?_)
  rw [if_neg (by simp)]
  refine wpAny_bind (wpAny_pure ?_)
  simp only [Bool.false_eq_true, if_false]
  refine wpAny_bind (m := tryCompare (.ref x) _ (.ref x)) (wpAny_mono one (fun r s1 z => ?_) fun _ _ e => e)
  obtain ⟨z1, z2⟩ := z
  subst z1
  subst z2
  exact wpAny_pure h
end
end Qs
open PySem PySem.Spec PyProof.Rows L2
def rEqSame (K : PySem.W.Frag) : R2 := fun x y H Q => ∃ a C dx fs, x = .ref a ∧ y = .ref a ∧ H a = some (.ins C dx fs) ∧ PySem.W.mroIn K C (.type "object") = some true ∧ PySem.W.findIn K (.ref C) "__eq__" = some (some (.builtin "object.__eq__")) ∧ Q (.bl true) H
theorem op_eqSame {X : Cx} (hu : X.A.units < cLine) : OpR X (compareOp .Eq) (rEqSame X.K) := by
  intro pins s σ H x y v u Q I rx ry h
  obtain ⟨a, C, dx, fs, rfl, rfl, e, hm, hs, q⟩ := h
  obtain rfl : v = Value.ref a := rx
  obtain rfl : u = Value.ref a := ry
  obtain ⟨od, J⟩ := inst_at I e
  exact Qs.rc_self hu I.kIn J hm hs X.prog X.w _ _ ⟨.bl true, H, I, rfl, q⟩
/-! a KeyError let out, its context None -/
section
variable {X : Cx} {W : WX} {pins : List (Addr × Obj)} {σ : L2.St} {H : Hp} {s : Shared}
theorem takes_newN {cls : String} {h' : Heap} {e : Addr} {t' : Nat} (tk : L2N.Takes X W) (I : Inv X pins σ H s) (x : Heap.NewExc s.heap h' e cls) (w : ∀ d, W (.type cls) d σ H) : X.xe (.ref e) { s with heap := h', toks := t' } := by
  obtain ⟨ob, tb, he, hc, hd⟩ := x.there
  have hz : L2N.Zn (.type cls) ob.dict ob := ⟨hc, rfl, fun vs e' => by rw [hd] at e'; cases e'; rfl⟩
  exact tk _ _ (L2N.XE.new (s' := { s with heap := h', toks := t' }) I x.keeps x.new he hz hd rfl (I.hok.gone x.new) rfl I.bare (w ob.dict))
end
section
variable {X : Cx} {W : WX} {o i : Expr} {td ty : TE} {pos : Pos}
theorem pe_dgetXN (hc : X.calm = true) (hu : X.A.units + 1 < cLine) (tk : L2N.Takes X W) (ho : PE X o td) (hi : PE X i ty) (hs : NoSl i) : PE X (.Subscript o i pos) (tDGetX W td ty) := by
  refine ⟨fun pins s σ H Q I h => ?_⟩
  refine subD_of PySem.F.slot_dict_getitem.lookup hs (thn (ho.run pins s σ H _ I h) fun u s1 ⟨x, H1, I1, rx, q1⟩ => thn (hi.run pins s1 σ H1 _ I1 q1) fun iv s2 ⟨y, H2, I2, ry, a, ov, ex, g, qs, qn⟩ => ?_)
  subst ex
  obtain rfl : u = Value.ref a := rx
  refine ⟨dict_typeIs I2 g, ?_⟩
  cases ov with
  | some v => exact d_getItem hu I2 g ry fun w' s3 I3 rw' => ⟨v, H2, I3, rw', qs v rfl⟩
  | none => exact d_missing hu (I2.ok.hd hc) I2 g ry fun h' e t' ne => takes_newN (t' := t') tk I2 ne (qn rfl)
end
/-! the names, sorted -/
def namesL (l : List Str) : List Str := (["a", "main", "zz"] : List Str).filter fun x => decide (x ∈ l)
theorem sorted_names {l : List Str} (hn : l.Nodup) (ht : ∀ x ∈ l, Title x) (hs : sortedS l = true) : namesL l = l := by
  match l, hn, ht, hs with
  | [], _, _, _ => rfl
  | [x], _, ht, _ =>
    rcases ht x (by simp) with rfl | rfl | rfl <;> decide +kernel
  | [x, y], hn, ht, hs =>
    rcases ht x (by simp) with rfl | rfl | rfl <;> rcases ht y (by simp) with rfl | rfl | rfl <;> (revert hn hs; decide +kernel)
  | [x, y, z], hn, ht, hs =>
    rcases ht x (by simp) with rfl | rfl | rfl <;> rcases ht y (by simp) with rfl | rfl | rfl <;> rcases ht z (by simp) with rfl | rfl | rfl <;> (revert hn hs; decide +kernel)
  | x :: y :: z :: t :: r, hn, ht, _ =>
    exact absurd (Pp.three hn ht) (by simp)
theorem names_eq {sh : Shelf} {ys : List Str} (ht : ∀ q ∈ sh, Title q.1) (hn : (sh.map (·.1)).Nodup) (hp : ys.Perm (sh.map (·.1))) (hs : sortedS ys = true) : ys = namesOf sh := by
  have e : namesOf sh = namesL ys := by
    unfold namesOf namesL
    congr 1
    funext x
    exact decide_eq_decide.mpr hp.mem_iff.symm
  rw [e]
  refine (sorted_names (hp.nodup_iff.mpr hn) (fun x hx => ?_) hs).symm
  obtain ⟨q, hq, rfl⟩ := List.mem_map.mp (hp.mem_iff.mp hx)
  exact ht q hq
theorem P2.imp_mem {α β : Type} {R S : α → β → Prop} : ∀ {l : List α} {m : List β}, (∀ a b, a ∈ l → R a b → S a b) → P2 R l m → P2 S l m
  | _, _, _, .nil => .nil
  | _, _, f, .cons h t => .cons (f _ _ (List.mem_cons_self ..) h) (P2.imp_mem (fun a b ha => f a b (List.mem_cons_of_mem _ ha)) t)
abbrev s_l_looked : Stmt := top 82
theorem sc_l_looked : FnScope ["_law_book_here", "_law_held", "_law_ends_at", "_law_seen_here", "_law_lacking"] ["_law_book_here", "_law_held", "_law_ends_at", "_law_seen_here"] (defScope s_l_looked) := ⟨rfl, rfl, rfl, by decide +kernel, rfl, by decide +kernel, by decide +kernel⟩
abbrev N_l_looked : List Str := ["_law_book_here", "_law_held", "_law_ends_at", "_law_seen_here", "_law_lacking"]
def spLooked (C : Addr) : Sp := fun vs H Q E => ∃ b sn ends, vs = [.ref b, .ref b, .int ((ends : Nat) : Int), .ref sn] ∧ spW C b sn ends H Q E
section
variable {P : Program} {w : World} {K : PySem.W.Frag} {mg : Str → Option Value} {base : Heap} {C : Addr}
theorem d_l_looked (F : At K mg "_law_looked" s_l_looked) (B : Blt mg) (BK : BkT K mg C) (D_p_changes : Pn P w K mg base 1 C "changes" (spChanges C)) (D_p_names : Pn P w K mg base 1 C "names" (spNames C)) : Dn P w K mg base (L2N.CX P w) 3 "_law_looked" ["_law_book_here", "_law_held", "_law_ends_at", "_law_seen_here"] (spLooked C) := by
  refine F.okX sc_l_looked (fun vs H Q E h => ?_) (fun _ _ _ _ _ _ us hl => match us, hl with | [_, _, _, _], _ => rfl) (fun f cdv A outer s H vs Q E hr h => ?_)
  · obtain ⟨_, _, _, rfl, _⟩ := h
    rfl
  obtain ⟨b, sn, ends, rfl, pg, past, looks, hb, hg, hs, hl, hpl, k1, k2⟩ := h
  refine ⟨_, (pss_cons (ps_set (i := 4) sc_l_looked.nd rfl (.inl rfl) pe_dnewK)
  (pss_cons (ps_expr (pe_bm PySem.F.plainAttrs_list PySem.F.slot_list_append PySem.F.type_list_append mt_append (pv 3) (pa_cons (pe_lst (pa_cons (pe_cmpR (op_eqSame (Nat.lt_of_succ_lt (hu_of hr))) (pv 1) (pv 0) (nomark _)) (pa_cons (pe_pn D_p_changes BK.cls hr (by decide) (pv 1) (by rfl)) (pa_cons (pe_pn D_p_names BK.cls hr (by decide) (pv 1) (by rfl)) pa_nil)))) pa_nil)))
  (pss_one (ps_ret (pe_ifExp (pt_cmpR op_eq (pe_callB (id := "len") call_len_seq (by rfl) B.len (by decide +kernel) (pa_cons (pv 3) pa_nil)) (pv 2) (nomark _)) (pe_dgetXN rfl (hu_of hr) (L2N.takes_of rfl rfl rfl rfl) (pv 4) (pv 2) (fun _ _ => rfl)) pe_non))))), ?_⟩
  obtain ⟨nd, md, pd, ⟨dx, h1⟩, h2, h3⟩ := id hb
  obtain ⟨as, hsn, hpw⟩ := id hs
  have sl : pg.sh.length < 60 := Nat.lt_of_le_of_lt hg.three (by decide)
  intro d hd
  have S1 : Same H (upd H d (.dK [])) := same_new hd
  refine ⟨_, rfl, ?_, ?_⟩
  · exact .inl ⟨rfl, _, SqL.of (S1 _ _ hsn)⟩
  refine ⟨_, rfl, _, rfl, b, C, dx, _, rfl, rfl, S1 _ _ h1, BK.mo, BK.eq, ?_⟩
  refine ⟨_, rfl, b, dx, _, rfl, S1 _ _ h1, b, pg, past, rfl, hb.on S1, ?_⟩
  refine ⟨_, rfl, b, dx, _, rfl, S1 _ _ h1, b, pg, past, rfl, hb.on S1, sl, fun ys t H2 hy1 hy2 S2 ht => ?_⟩
  have ey := names_eq hg.ti hg.nd hy1 hy2
  subst ey
  refine ⟨sz3, fun l hl0 => ?_⟩
  have S3 : Same H (upd H2 l (.lst [.bl true, .int (past.length : Int), .ref t])) := (S1.trans S2).trans (same_new hl0)
  have hsn3 := S3 _ _ hsn
  have nsl : sn ≠ l := ne_of_none ((S1.trans S2) _ _ hsn) hl0
  refine ⟨sn, as.map V.ref, .ref l, rfl, rfl, hsn3, ?_, ?_⟩
  · rw [List.length_map, hpw.len]
    exact Nat.lt_of_lt_of_le hl (by decide)
  generalize hH4 : upd (upd H2 l (.lst [.bl true, .int (past.length : Int), .ref t])) sn (.lst (as.map V.ref ++ [.ref l])) = H4
  have B4 : But sn H H4 := fun c o hc ho => by
    rw [← hH4, upd_ne hc]
    exact S3 _ _ ho
  have hs4 : H4 sn = some (.lst (as.map V.ref ++ [.ref l])) := by rw [← hH4, upd_same]
  have hd4 : H4 d = some (.dK []) := by
    have e1 : (upd H2 l (.lst [.bl true, .int (past.length : Int), .ref t])) d = some (.dK []) := (same_new hl0) _ _ (S2 _ _ upd_same)
    rw [← hH4, upd_ne (fun z => by rw [z, hsn3] at e1; cases e1)]
    exact e1
  -- the looks are lists of three, the list of looks is one of addresses
  have nel : ∀ a z, LookAt H a z → a ≠ sn := by
    rintro a z ⟨t', e1, _⟩ rfl
    rw [hsn] at e1
    have e2 : as.map V.ref = [.bl true, .int (z.1 : Int), .ref t'] := by
      have := Option.some.inj e1
      injection this
    cases as with
    | nil => cases e2
    | cons a0 r0 =>
      have := (List.cons.inj e2).1
      cases this
  have tsn : ∀ t' xs, H t' = some (.tup xs) → t' ≠ sn := fun t' xs e z => by rw [z, hsn] at e; cases e
  have seen4 : SeenAt H4 sn (looks ++ [(past.length, namesOf pg.sh)]) := by
    refine ⟨as ++ [l], by rw [hs4, List.map_append]; rfl, P2.app (P2.imp_mem (fun a z _ h => ?_) hpw) (.cons ?_ .nil)⟩
    · obtain ⟨t', e1, e2⟩ := id h
      exact ⟨t', B4 _ _ (nel a z h) e1, B4 _ _ (tsn _ _ e2) e2⟩
    · refine ⟨t, ?_, ?_⟩
      · rw [← hH4, upd_ne (Ne.symm nsl), upd_same]
      · have tn : t ≠ sn := fun z => by
          have := S2 _ _ (S1 _ _ hsn)
          rw [z, this] at ht
          cases ht
        rw [← hH4, upd_ne tn]
        exact same_new hl0 _ _ ht
  have ln : (as.map V.ref ++ [V.ref l]).length = looks.length + 1 := by
    rw [List.length_append, List.length_map, hpw.len]
    rfl
  refine ⟨_, rfl, sn, _, rfl, .inl (SqL.of hs4), _, rfl, rfl, _, rfl, ?_⟩
  rw [ln]
  by_cases c : looks.length + 1 = ends
  · have ec : decide (V.int ((looks.length + 1 : Nat) : Int) = V.int (ends : Int)) = true := decide_eq_true (by rw [c])
    rw [ec]
    refine iteT ⟨_, rfl, _, rfl, d, none, rfl, ?_, fun v e => (nomatch e), fun _ dd => ?_⟩
    · exact DGet.k (k := Sum.inl (ends : Int)) hd4
    · exact k2 c dd H4 B4 seen4
  · have ec : decide (V.int ((looks.length + 1 : Nat) : Int) = V.int (ends : Int)) = false := decide_eq_false fun z => c (by
      injection z with z
      omega)
    rw [ec]
    exact iteF (k1 c H4 B4 seen4)
end
end Pp
-- F2
namespace Pp
open PySem PySem.Spec PyProof.Rows L2
abbrev FRn (P : Program) (w : World) (K : PySem.W.Frag) (mg : Str → Option Value) (base : Heap) : Addr → Sp → Prop := fun f sl => FnR P w K mg base (L2N.CX P w) 4 f sl
/-- deeds at hand: do_all's promise, told of the items -/
def spAny (FR : Addr → Sp → Prop) (C : Addr) (mg : Str → Option Value) (b : Addr) (wv : V) (xs : List V) (H : Hp) (Q : VK) (E : XK) : Prop := ∃ pg past, xs.length ≤ 6 ∧ BookAt C H b pg past ∧ PgOk pg ∧ pg.ws.length ≤ 1000 ∧ past.length ≤ 1000 ∧
  ((∃ i v, xs[i]? = some v ∧ BadAt H v ∧ (∀ (j : Nat) y, j < i → xs[j]? = some y → ∃ d, DeedAt H y d) ∧ Out mg H E (.deeds i)) ∨
    ∃ ds wd, P2 (DeedAt H) xs ds ∧ (∀ d ∈ ds, DeedOk d) ∧ ((wv = .non ∧ wd = none) ∨ ∃ d, wd = some d ∧ wv = .ref d.f ∧ WdOk FR C b H d) ∧ Done C mg H Q E b wd pg past ds)
theorem Kx.of {H H' : Hp} (S : Same H H') : Kx H H' := fun a φ h => S _ _ h
theorem SeenAt.on {H H' : Hp} {sn : Addr} {l : List (Nat × List Str)} (S : Same H H') (h : SeenAt H sn l) : SeenAt H' sn l := by
  obtain ⟨as, h1, h2⟩ := h
  exact ⟨as, S _ _ h1, h2.imp fun a z ⟨t, e1, e2⟩ => ⟨t, S _ _ e1, S _ _ e2⟩⟩
theorem WdOk.on {FR : Addr → Sp → Prop} {C b : Addr} {H H' : Hp} {d : Wd} (S : Same H H') (h : WdOk FR C b H d) : WdOk FR C b H' d := by
  refine ⟨h.fr, ?_, fun H2 Q E k q => h.run H2 Q E ((Kx.of S).trans k) q, h.seen.on S⟩
  obtain ⟨oc, od, fd, sl, e⟩ := h.fn
  exact ⟨oc, od, fd, sl, S _ _ e⟩
theorem Done.on {C : Addr} {mg : Str → Option Value} {H H' : Hp} {Q : VK} {E : XK} {b : Addr} {wd : Option Wd} {pg : Page} {past : List Page} {ds : List Deed} (S : Same H H') (h : Done C mg H Q E b wd pg past ds) : Done C mg H' Q E b wd pg past ds := by
  unfold Done at h ⊢
  cases h1 : cutW wd (runs pg ds).1.length with
  | some e =>
    rw [h1] at h
    exact fun d H2 k => h d H2 (k.same S)
  | none =>
    rw [h1] at h
    cases h2 : (runs pg ds).2 with
    | some e =>
      rw [h2] at h
      exact fun cls d H2 k => h cls d H2 (k.same S)
    | none =>
      rw [h2] at h
      exact fun H2 k => h H2 (k.same S)
theorem any_da {FR : Addr → Sp → Prop} {C : Addr} {mg : Str → Option Value} {b : Addr} {wv : V} {xs : List V} {H : Hp} {Q : VK} {E : XK} (h : spAny FR C mg b wv xs H Q E) : daSp (spDoAll FR C mg) (.ref b) wv xs H Q E := by
  obtain ⟨pg, past, hl, hb, hg, h1, h2, hc⟩ := h
  refine ⟨hl, fun p hp => ⟨b, wv, p, xs, pg, past, rfl, upd_same, hl, hb.on (same_new hp), hg, h1, h2, ?_⟩⟩
  have S : Same H (upd H p (.tup xs)) := same_new hp
  rcases hc with ⟨i, v, e1, e2, e3, e4⟩ | ⟨ds, wd, e1, e2, e3, e4⟩
  · exact .inl ⟨i, v, e1, e2.on S, fun j y hj hy => let ⟨d, hd⟩ := e3 j y hj hy; ⟨d, hd.on S⟩, e4.on S⟩
  · refine .inr ⟨ds, wd, e1.imp fun _ _ h => h.on S, e2, ?_, e4.on S⟩
    rcases e3 with e3 | ⟨d, z1, z2, z3⟩
    · exact .inl e3
    · exact .inr ⟨d, z1, z2, z3.on S⟩
abbrev s_l_all : Stmt := top 84
theorem sc_l_all : FnScope ["_law_book_here", "_law_d", "_law_look"] ["_law_book_here", "_law_d", "_law_look"] (defScope s_l_all) := ⟨rfl, rfl, rfl, by decide +kernel, rfl, by decide +kernel, by decide +kernel⟩
abbrev N_l_all : List Str := ["_law_book_here", "_law_d", "_law_look"]
def spAll (FR : Addr → Sp → Prop) (C : Addr) (mg : Str → Option Value) : Sp := fun vs H Q E => ∃ b dl wv xs, vs = [.ref b, .ref dl, wv] ∧ H dl = some (.lst xs) ∧ spAny FR C mg b wv xs H Q E
section
variable {P : Program} {w : World} {K : PySem.W.Frag} {mg : Str → Option Value} {base : Heap} {C : Addr}
theorem d_l_all {FR : Addr → Sp → Prop} (F : At K mg "_law_all" s_l_all) (B : Blt mg) (BK : BkT K mg C) (D_da : DAll P w K mg base 13 C (spDoAll FR C mg)) : Dn P w K mg base (L2N.CX P w) 14 "_law_all" ["_law_book_here", "_law_d", "_law_look"] (spAll FR C mg) := by
  refine F.okX sc_l_all (fun vs H Q E h => ?_) (fun _ _ _ _ _ _ us hl => match us, hl with | [_, _, _], _ => rfl) (fun f cdv A outer s H vs Q E hr h => ?_)
  · obtain ⟨_, _, _, _, rfl, _⟩ := h
    rfl
  obtain ⟨b, dl, wv, xs, rfl, hx, ha⟩ := h
  refine ⟨_, (pss_cons (ps_if (pt_cmpR op_eq (pe_callB (id := "len") call_len_seq (by rfl) B.len (by decide +kernel) (pa_cons (pv 1) pa_nil)) pe_int (nomark _)) (pss_one (ps_ret (pe_ifExp (pt_cmpR op_notN (pv 2) pe_non (nomark _)) (pe_daK0 D_da BK.cls hr (by decide) (L2N.passes_call (L2N.takes_of rfl rfl rfl rfl) (fun _ _ _ _ h => h)) (pv 0) (pv 2)) (pe_da0 D_da BK.cls hr (by decide) (L2N.passes_call (L2N.takes_of rfl rfl rfl rfl) (fun _ _ _ _ h => h)) (pv 0))))) pss_nil)
  (pss_cons (ps_if (pt_cmpR op_eq (pe_callB (id := "len") call_len_seq (by rfl) B.len (by decide +kernel) (pa_cons (pv 1) pa_nil)) pe_int (nomark _)) (pss_one (ps_ret (pe_ifExp (pt_cmpR op_notN (pv 2) pe_non (nomark _)) (pe_daK D_da BK.cls hr (by decide) (L2N.passes_call (L2N.takes_of rfl rfl rfl rfl) (fun _ _ _ _ h => h)) (pv 0) (pa_cons (pe_ix (r := rIxL K) ix_list (pv 1) pe_int (fun _ _ => rfl)) pa_nil) (pv 2)) (pe_da D_da BK.cls hr (by decide) (L2N.passes_call (L2N.takes_of rfl rfl rfl rfl) (fun _ _ _ _ h => h)) (pv 0) (pa_cons (pe_ix (r := rIxL K) ix_list (pv 1) pe_int (fun _ _ => rfl)) pa_nil))))) pss_nil)
  (pss_cons (ps_if (pt_cmpR op_eq (pe_callB (id := "len") call_len_seq (by rfl) B.len (by decide +kernel) (pa_cons (pv 1) pa_nil)) pe_int (nomark _)) (pss_one (ps_ret (pe_daK D_da BK.cls hr (by decide) (L2N.passes_call (L2N.takes_of rfl rfl rfl rfl) (fun _ _ _ _ h => h)) (pv 0) (pa_cons (pe_ix (r := rIxL K) ix_list (pv 1) pe_int (fun _ _ => rfl)) (pa_cons (pe_ix (r := rIxL K) ix_list (pv 1) pe_int (fun _ _ => rfl)) pa_nil)) (pv 2)))) pss_nil)
  (pss_cons (ps_if (pt_cmpR op_eq (pe_callB (id := "len") call_len_seq (by rfl) B.len (by decide +kernel) (pa_cons (pv 1) pa_nil)) pe_int (nomark _)) (pss_one (ps_ret (pe_daK D_da BK.cls hr (by decide) (L2N.passes_call (L2N.takes_of rfl rfl rfl rfl) (fun _ _ _ _ h => h)) (pv 0) (pa_cons (pe_ix (r := rIxL K) ix_list (pv 1) pe_int (fun _ _ => rfl)) (pa_cons (pe_ix (r := rIxL K) ix_list (pv 1) pe_int (fun _ _ => rfl)) (pa_cons (pe_ix (r := rIxL K) ix_list (pv 1) pe_int (fun _ _ => rfl)) pa_nil))) (pv 2)))) pss_nil)
  (pss_cons (ps_if (pt_cmpR op_eq (pe_callB (id := "len") call_len_seq (by rfl) B.len (by decide +kernel) (pa_cons (pv 1) pa_nil)) pe_int (nomark _)) (pss_one (ps_ret (pe_daK D_da BK.cls hr (by decide) (L2N.passes_call (L2N.takes_of rfl rfl rfl rfl) (fun _ _ _ _ h => h)) (pv 0) (pa_cons (pe_ix (r := rIxL K) ix_list (pv 1) pe_int (fun _ _ => rfl)) (pa_cons (pe_ix (r := rIxL K) ix_list (pv 1) pe_int (fun _ _ => rfl)) (pa_cons (pe_ix (r := rIxL K) ix_list (pv 1) pe_int (fun _ _ => rfl)) (pa_cons (pe_ix (r := rIxL K) ix_list (pv 1) pe_int (fun _ _ => rfl)) pa_nil)))) (pv 2)))) pss_nil)
  (pss_cons (ps_if (pt_cmpR op_eq (pe_callB (id := "len") call_len_seq (by rfl) B.len (by decide +kernel) (pa_cons (pv 1) pa_nil)) pe_int (nomark _)) (pss_one (ps_ret (pe_daK D_da BK.cls hr (by decide) (L2N.passes_call (L2N.takes_of rfl rfl rfl rfl) (fun _ _ _ _ h => h)) (pv 0) (pa_cons (pe_ix (r := rIxL K) ix_list (pv 1) pe_int (fun _ _ => rfl)) (pa_cons (pe_ix (r := rIxL K) ix_list (pv 1) pe_int (fun _ _ => rfl)) (pa_cons (pe_ix (r := rIxL K) ix_list (pv 1) pe_int (fun _ _ => rfl)) (pa_cons (pe_ix (r := rIxL K) ix_list (pv 1) pe_int (fun _ _ => rfl)) (pa_cons (pe_ix (r := rIxL K) ix_list (pv 1) pe_int (fun _ _ => rfl)) pa_nil))))) (pv 2)))) pss_nil)
  (pss_one (ps_ret (pe_daK D_da BK.cls hr (by decide) (L2N.passes_call (L2N.takes_of rfl rfl rfl rfl) (fun _ _ _ _ h => h)) (pv 0) (pa_cons (pe_ix (r := rIxL K) ix_list (pv 1) pe_int (fun _ _ => rfl)) (pa_cons (pe_ix (r := rIxL K) ix_list (pv 1) pe_int (fun _ _ => rfl)) (pa_cons (pe_ix (r := rIxL K) ix_list (pv 1) pe_int (fun _ _ => rfl)) (pa_cons (pe_ix (r := rIxL K) ix_list (pv 1) pe_int (fun _ _ => rfl)) (pa_cons (pe_ix (r := rIxL K) ix_list (pv 1) pe_int (fun _ _ => rfl)) (pa_cons (pe_ix (r := rIxL K) ix_list (pv 1) pe_int (fun _ _ => rfl)) pa_nil)))))) (pv 2)))))))))), ?_⟩
  have hd := any_da ha
  obtain ⟨pg, past, hl, ⟨nd, md, pd, ⟨dx, h1⟩, _, _⟩, _⟩ := id ha
  -- the tests on the length
  have no : ∀ (n : Nat) {R : Bool → Hp → Prop}, xs.length ≠ n → R false H → tTest (tOp rEq (tCB (fun xs H Q => ∃ p ys, xs = [.ref p] ∧ (SqL K H p ys ∨ SqT K H p ys) ∧ Q (.int ys.length) H) (tCons (tVar 1) tNil)) (tC (.int (n : Int)))) [some (.ref b), some (.ref dl), some wv] H R := by
    intro n R hn hR
    refine ⟨_, rfl, dl, xs, rfl, .inl (SqL.of hx), rfl, _, rfl, ?_⟩
    rw [show decide (V.int (xs.length : Int) = V.int (n : Int)) = false from decide_eq_false fun z => hn (by injection z with z; exact Int.ofNat_inj.mp z)]
    exact hR
  have yes : ∀ (n : Nat) {R : Bool → Hp → Prop}, xs.length = n → R true H → tTest (tOp rEq (tCB (fun xs H Q => ∃ p ys, xs = [.ref p] ∧ (SqL K H p ys ∨ SqT K H p ys) ∧ Q (.int ys.length) H) (tCons (tVar 1) tNil)) (tC (.int (n : Int)))) [some (.ref b), some (.ref dl), some wv] H R := by
    intro n R hn hR
    refine ⟨_, rfl, dl, xs, rfl, .inl (SqL.of hx), rfl, _, rfl, ?_⟩
    rw [show decide (V.int (xs.length : Int) = V.int (n : Int)) = true from decide_eq_true (by rw [hn])]
    exact hR
  have at_ : ∀ (i : Nat) (v : V) {R : V → Hp → Prop}, xs[i]? = some v → R v H → tOp (rIxL K) (tVar 1) (tC (.int (i : Int))) [some (.ref b), some (.ref dl), some wv] H R := by
    intro i v R hi hR
    exact ⟨_, rfl, dl, _, _, v, rfl, rfl, SqL.of hx, atI_nat hi, hR⟩
  match xs, hl, hx, hd, no, yes, at_ with
  | [], _, hx, hd, no, yes, at_ =>
    refine yes 0 rfl (iteT ⟨_, rfl, rfl, _, rfl, ?_⟩)
    by_cases c : wv = .non
    · subst c
      exact iteF ⟨_, rfl, b, dx, _, rfl, h1, rfl, hd⟩
    · rw [decide_eq_false c]
      exact iteT ⟨_, rfl, b, dx, _, rfl, h1, rfl, _, rfl, hd⟩
  | [v0], _, hx, hd, no, yes, at_ =>
    refine no 0 (show 1 ≠ 0 by decide) (iteF (yes 1 rfl (iteT ⟨_, rfl, rfl, _, rfl, ?_⟩)))
    by_cases c : wv = .non
    · subst c
      exact iteF ⟨_, rfl, b, dx, _, rfl, h1, rfl, at_ 0 v0 rfl hd⟩
    · rw [decide_eq_false c]
      exact iteT ⟨_, rfl, b, dx, _, rfl, h1, rfl, at_ 0 v0 rfl ⟨_, rfl, hd⟩⟩
  | [v0, v1], _, hx, hd, no, yes, at_ => exact (no 0 (show 2 ≠ 0 by decide) (iteF (no 1 (show 2 ≠ 1 by decide) (iteF (yes 2 rfl (iteT ⟨_, rfl, b, dx, _, rfl, h1, rfl, (at_ 0 v0 rfl (at_ 1 v1 rfl ⟨_, rfl, hd⟩))⟩))))))
  | [v0, v1, v2], _, hx, hd, no, yes, at_ => exact (no 0 (show 3 ≠ 0 by decide) (iteF (no 1 (show 3 ≠ 1 by decide) (iteF (no 2 (show 3 ≠ 2 by decide) (iteF (yes 3 rfl (iteT ⟨_, rfl, b, dx, _, rfl, h1, rfl, (at_ 0 v0 rfl (at_ 1 v1 rfl (at_ 2 v2 rfl ⟨_, rfl, hd⟩)))⟩))))))))
  | [v0, v1, v2, v3], _, hx, hd, no, yes, at_ => exact (no 0 (show 4 ≠ 0 by decide) (iteF (no 1 (show 4 ≠ 1 by decide) (iteF (no 2 (show 4 ≠ 2 by decide) (iteF (no 3 (show 4 ≠ 3 by decide) (iteF (yes 4 rfl (iteT ⟨_, rfl, b, dx, _, rfl, h1, rfl, (at_ 0 v0 rfl (at_ 1 v1 rfl (at_ 2 v2 rfl (at_ 3 v3 rfl ⟨_, rfl, hd⟩))))⟩))))))))))
  | [v0, v1, v2, v3, v4], _, hx, hd, no, yes, at_ => exact (no 0 (show 5 ≠ 0 by decide) (iteF (no 1 (show 5 ≠ 1 by decide) (iteF (no 2 (show 5 ≠ 2 by decide) (iteF (no 3 (show 5 ≠ 3 by decide) (iteF (no 4 (show 5 ≠ 4 by decide) (iteF (yes 5 rfl (iteT ⟨_, rfl, b, dx, _, rfl, h1, rfl, (at_ 0 v0 rfl (at_ 1 v1 rfl (at_ 2 v2 rfl (at_ 3 v3 rfl (at_ 4 v4 rfl ⟨_, rfl, hd⟩)))))⟩))))))))))))
  | [v0, v1, v2, v3, v4, v5], _, hx, hd, no, yes, at_ => exact (no 0 (show 6 ≠ 0 by decide) (iteF (no 1 (show 6 ≠ 1 by decide) (iteF (no 2 (show 6 ≠ 2 by decide) (iteF (no 3 (show 6 ≠ 3 by decide) (iteF (no 4 (show 6 ≠ 4 by decide) (iteF (no 5 (show 6 ≠ 5 by decide) (iteF ⟨_, rfl, b, dx, _, rfl, h1, rfl, (at_ 0 v0 rfl (at_ 1 v1 rfl (at_ 2 v2 rfl (at_ 3 v3 rfl (at_ 4 v4 rfl (at_ 5 v5 rfl ⟨_, rfl, hd⟩))))))⟩))))))))))))
  | _ :: _ :: _ :: _ :: _ :: _ :: _ :: _, hl, _, _, _, _, _ => exact absurd hl (by simp)
end
end Pp
-- F3
namespace Pp
open PySem PySem.Spec PyProof.Rows L2 NdefX LamX
/-! things of the text's lambdas -/
def retE : Stmt → Expr
  | .Return (some e) _ => e
  | _ => .Constant .none 0 ⟨0, 0, 0, 0⟩
def argE (i : Nat) : Expr → Expr
  | .Call _ args _ _ => args.getD i (.Constant .none 0 ⟨0, 0, 0, 0⟩)
  | _ => .Constant .none 0 ⟨0, 0, 0, 0⟩
def lamP : Expr → Arguments
  | .Lambda p _ _ _ => p
  | _ => ⟨[], [], none, [], [], none, []⟩
def lamB : Expr → Expr
  | .Lambda _ b _ _ => b
  | e => e
def lamSc : Expr → Scope
  | .Lambda _ _ s _ => s
  | _ => ⟨.function, [], false, false, []⟩
/-- a def of the top whose code object is known -/
structure AtT (K : PySem.W.Frag) (mg : Str → Option Value) (x : Str) (st : Stmt) (c : Addr) : Prop where
  ex : ∃ (f : Addr) (oc : Value) (od : Option Addr) (kV doc pm : Value) (an : Option Addr) (ct : Value) (osl : Array (Option Value)), K.lookup f = some ⟨oc, od, .func (PySem.W.fnOf x x (defArgs st) (defBody st) (defScope st) .none kV doc pm an (.ref c) ct), osl⟩ ∧
    PySem.W.codeIn K (.ref c) x = true ∧ PySem.W.keepIn K (.ref f) = true ∧ mg x = some (.ref f)
section
variable {P : Program} {w : World} {K : PySem.W.Frag} {mg : Str → Option Value} {base : Heap}
theorem AtT.fn {cx : CXT} {x : Str} {st : Stmt} {c : Addr} {N ps : List Str} {k : Nat} {sp : Sp} (F : AtT K mg x st c) (S : FnScope N ps (defScope st)) (len : ∀ vs H Q E, sp vs H Q E → vs.length = ps.length)
    (hb : ∀ (kV doc pm : Value) (an : Option Addr) (cdv ct : Value) (us : List Value), us.length = ps.length → bindArgs (PySem.W.fnOf x x (defArgs st) (defBody st) (defScope st) .none kV doc pm an cdv ct) ⟨us, []⟩ = pure (ps.zip us))
    (hbody : ∀ (f : Addr) (A : Around) (outer : List Env) (s : Shared) (H : Hp) (vs : List V) (Q : VK) (E : XK), Room k (A.deeper (envOfC x (defScope st) s.heap.objs.size f (.ref c))) → sp vs H Q E →
      ∃ t, PSs (cxOf cx P w K mg base N x (defScope st) f (.ref c) A outer s H E) (defBody st) t ∧ t { nx := fun _ H' => Q .non H', rt := Q } (start N vs) H) : Dn P w K mg base cx (k + 1) x ps sp := by
  obtain ⟨f, oc, od, kV, doc, pm, an, ct, osl, lk, hcd, kp, hm⟩ := F.ex
  have Fu : Fun K x x st f _ := fun_mk lk hcd kp
  exact ⟨f, _, fn_of lk hcd S len fun A outer s H vs Q E hr hsp => hbody f A outer s H vs Q E hr hsp, hm, kp, Fu.binds hb⟩
end
/-! data that stays -/
/-- all but code, tables and the like is as it was -/
def NX (H H' : Hp) : Prop := ∀ b o, H b = some o → (∀ φ, o ≠ .ext φ) → (∀ ps, o ≠ .tbl ps) → H' b = some o
theorem NX.refl (H : Hp) : NX H H := fun _ _ h _ _ => h
theorem NX.trans {H H1 H2 : Hp} (a : NX H H1) (b : NX H1 H2) : NX H H2 := fun c o h n m => b c o (a c o h n m) n m
theorem NX.of {H H' : Hp} (S : Same H H') : NX H H' := fun b o h _ _ => S b o h
theorem NX.ext {H H' : Hp} (S : ExtN H H') : NX H H' := fun b o h _ m => S b o h m
theorem NX.minus {H : Hp} {cs : Cs} (hc : HasC H cs) : NX H (minusC H cs) := fun b o h n _ => minusC_keep hc h n
theorem NX.td {H H' : Hp} (S : NX H H') : TD H H' := ⟨fun a xs h => S _ _ h (fun _ z => by cases z) (fun _ z => by cases z), fun a xs h => S _ _ h (fun _ z => by cases z) (fun _ z => by cases z)⟩
theorem BookAt.nx {H H' : Hp} {C b : Addr} {pg : Page} {past : List Page} (S : NX H H') (h : BookAt C H b pg past) : BookAt C H' b pg past := by
  obtain ⟨nd, md, pd, ⟨dx, h1⟩, h2, h3⟩ := h
  exact ⟨nd, md, pd, ⟨dx, S _ _ h1 (fun _ z => by cases z) (fun _ z => by cases z)⟩, h2.td S.td, h3.td S.td⟩
theorem SeenAt.nx {H H' : Hp} {sn : Addr} {l : List (Nat × List Str)} (S : NX H H') (h : SeenAt H sn l) : SeenAt H' sn l := by
  obtain ⟨as, h1, h2⟩ := h
  exact ⟨as, S _ _ h1 (fun _ z => by cases z) (fun _ z => by cases z), h2.imp fun a z ⟨t, e1, e2⟩ => ⟨t, S _ _ e1 (fun _ z => by cases z) (fun _ z => by cases z), S _ _ e2 (fun _ z => by cases z) (fun _ z => by cases z)⟩⟩
theorem BadAt.nx {H H' : Hp} {v : V} (S : NX H H') (h : BadAt H v) : BadAt H' v := by
  have s1 : ∀ x l, H x = some (.tup l) → H' x = some (.tup l) := fun x l e => S _ _ e (fun _ z => by cases z) (fun _ z => by cases z)
  cases h with
  | word h => exact .word (s1 _ _ h)
  | len h hm hl => exact .len (s1 _ _ h) hm hl
  | nil h => exact .nil (s1 _ _ h)
  | lst h => exact .lst (S _ _ h (fun _ z => by cases z) (fun _ z => by cases z))
  | str z => exact .str z
  | non => exact .non
  | int i => exact .int i
theorem ErrAt.nx {mg : Str → Option Value} {H H' : Hp} {cls : Value} {d : Option Addr} {e : Err} (S : NX H H') (h : ErrAt mg H cls d e) : ErrAt mg H' cls d e := by
  obtain ⟨h1, dd, h2, h3⟩ := h
  exact ⟨h1, dd, h2, S _ _ h3 (fun _ z => by cases z) (fun _ z => by cases z)⟩
/-- all but the book and the list of looks stays, the tables are as they must be -/
structure KeepS (b : Addr) (sn : Option Addr) (T : List (Addr × Str)) (H H' : Hp) : Prop where
  k : ∀ a o, a ≠ b → (∀ d, sn = some d → a ≠ d) → H a = some o → (∀ ps, o ≠ .tbl ps) → H' a = some o
  t : Tabs T H'
/-- behind a call with cells told -/
theorem keepS_of {b : Addr} {wd : Option Wd} {T : List (Addr × Str)} {H H1 H3 : Hp} {cs : Cs} {C dx : Addr} {fs : List (Str × V)} (eN : ExtN H H1) (T1 : Tabs T H1) (hf : ∀ c o, cs.lookup c = some o → H1 c = none) (hb : H1 b = some (.ins C dx fs)) (hs : SeenW H1 wd []) (k : KeepW b wd (plusC H1 cs) H3) :
    HasC H3 cs ∧ KeepS b (wd.map Wd.sn) T H (minusC H3 cs) := by
  have hsn : ∀ d, wd = some d → ∃ l, H1 d.sn = some (.lst l) := fun d e => let ⟨as, z, _⟩ := hs d e; ⟨_, z⟩
  have nb : ∀ (a : Addr) (o : HO), plusC H1 cs a = some o → (∀ C dx fs, o ≠ .ins C dx fs) → a ≠ b := fun a o e n z => by
    rw [z, plusC_keep hf hb] at e
    exact n _ _ _ (Option.some.inj e).symm
  have ns : ∀ (a : Addr) (o : HO), plusC H1 cs a = some o → (∀ l, o ≠ .lst l) → ∀ d, wd = some d → a ≠ d.sn := fun a o e n d hd z => by
    obtain ⟨l, hl⟩ := hsn d hd
    rw [z, plusC_keep hf hl] at e
    exact n _ (Option.some.inj e).symm
  have hc : HasC H3 cs := fun c o e => k c _ (nb c _ (plusC_in e) (fun _ _ _ z => by cases z)) (ns c _ (plusC_in e) (fun _ z => by cases z)) (plusC_in e)
  have go : ∀ a o, a ≠ b → (∀ d, wd = some d → a ≠ d.sn) → H1 a = some o → minusC H3 cs a = some o := fun a o h1 h2 e => by
    rw [minusC_out (free_out hf e)]
    exact k a o h1 h2 (plusC_keep hf e)
  refine ⟨hc, fun a o h1 h2 e n => go a o h1 (fun d hd => h2 _ (by rw [hd]; rfl)) (eN a o e n), fun p hp => ?_⟩
  obtain ⟨ps, a1, a2, a3⟩ := T1 p hp
  have st : ∀ a o, H1 a = some o → (∀ C dx fs, o ≠ .ins C dx fs) → (∀ l, o ≠ .lst l) → minusC H3 cs a = some o := fun a o e n1 n2 => go a o (nb a o (plusC_keep hf e) n1) (ns a o (plusC_keep hf e) n2) e
  refine ⟨ps, st _ _ a1 (fun _ _ _ z => by cases z) (fun _ z => by cases z), a2, fun pos cv hcv => ?_⟩
  obtain ⟨c, e1, e2⟩ := a3 pos cv hcv
  exact ⟨c, e1, st _ _ e2 (fun _ _ _ z => by cases z) (fun _ z => by cases z)⟩
theorem spW_minus {C b sn ends : Nat} {H : Hp} {cs : Cs} {Q : VK} {E : XK} (hc : HasC H cs) (h : spW C b sn ends H Q E) :
    spW C b sn ends (minusC H cs) (fun v H' => (∀ b o, cs.lookup b = some o → H' b = none) → Q v (plusC H' cs)) (fun cls d H' => (∀ b o, cs.lookup b = some o → H' b = none) → E cls d (plusC H' cs)) := by
  obtain ⟨pg, past, looks, hb, hg, hs, hl, hp, k1, k2⟩ := h
  have bp : ∀ {H' : Hp}, But sn (minusC H cs) H' → But sn H (plusC H' cs) := fun {H'} B c o hn ho => by
    cases e : cs.lookup c with
    | some o' =>
      rw [plusC_in e, ← ho, hc c o' e]
    | none =>
      rw [plusC_out e]
      exact B c o hn (by rw [minusC_out e]; exact ho)
  have sp : ∀ {H' : Hp}, (∀ b o, cs.lookup b = some o → H' b = none) → Same H' (plusC H' cs) := fun hf c o e => plusC_keep hf e
  exact ⟨pg, past, looks, hb.nx (NX.minus hc), hg, hs.nx (NX.minus hc), hl, hp, fun n H' B s hf => k1 n _ (bp B) (s.on (sp hf)), fun n d H' B s hf => k2 n d _ (bp B) (s.on (sp hf))⟩
abbrev s_l_called : Stmt := top 83
theorem sc_l_called : FnScope ["_law_book_here", "_law_deeds", "_law_ends_at", "_law_seen_here"] ["_law_book_here", "_law_deeds", "_law_ends_at", "_law_seen_here"] (defScope s_l_called) := ⟨rfl, rfl, rfl, by decide +kernel, rfl, by decide +kernel, by decide +kernel⟩
abbrev N_l_called : List Str := ["_law_book_here", "_law_deeds", "_law_ends_at", "_law_seen_here"]
abbrev lam_called : Expr := argE 2 (retE ((defBody s_l_called).getD 0 (.Pass ⟨0, 0, 0, 0⟩)))
abbrev q_called : Str := ("_law_called" : Str) ++ ".<locals>." ++ "<lambda>"
abbrev fr_called : List Str := ["_law_book_here", "_law_ends_at", "_law_seen_here"]
abbrev NL_called : List Str := "_law_held" :: fr_called
theorem sc_lam_called : NScope NL_called ["_law_held"] fr_called (lamSc lam_called) := nscope_by (by decide +kernel)
theorem hf_called : ∀ y ∈ (lamSc lam_called).names, y.2 = .free → (defScope s_l_called).names.lookup y.1 = some .cell ∨ (defScope s_l_called).names.lookup y.1 = some .free := by decide +kernel
theorem hr_called : ∀ y ∈ fr_called, (y, NameKind.free) ∈ (lamSc lam_called).names := by decide +kernel
/-- what comes of a call with a watch -/
def DoneC (C : Addr) (mg : Str → Option Value) (T : List (Addr × Str)) (H : Hp) (Q : VK) (E : XK) (b sn : Addr) (ends : Nat) (pg : Page) (past : List Page) (ds : List Deed) : Prop :=
  if 0 < ends ∧ ends ≤ (runs pg ds).1.length then ∀ d H', KeepS b (some sn) T H H' → BookAt C H' b pg past → SeenAt H' sn ((looksFrom (past.length + 1) (runs pg ds).1).take ends) → E (.type "KeyError") d H'
  else match (runs pg ds).2 with
    | some e => ∀ cls d H', KeepS b (some sn) T H H' → BookAt C H' b pg past → SeenAt H' sn (looksFrom (past.length + 1) (runs pg ds).1) → ErrAt mg H' cls d e → E cls d H'
    | none => ∀ H', KeepS b (some sn) T H H' → BookAt C H' b (lastP pg (runs pg ds).1) ((past ++ pg :: (runs pg ds).1).dropLast) → SeenAt H' sn (looksFrom (past.length + 1) (runs pg ds).1) → Q (.int (ds.length : Int)) H'
def spCalled (C : Addr) (mg : Str → Option Value) (T : List (Addr × Str)) : Sp := fun vs H Q E => ∃ b dl ends sn xs pg past, vs = [.ref b, .ref dl, .int ((ends : Nat) : Int), .ref sn] ∧ Tabs T H ∧ H dl = some (.lst xs) ∧ xs.length ≤ 6 ∧ BookAt C H b pg past ∧ PgOk pg ∧ pg.ws.length ≤ 1000 ∧ past.length ≤ 1000 ∧ SeenAt H sn [] ∧
  ((∃ i v, xs[i]? = some v ∧ BadAt H v ∧ (∀ (j : Nat) y, j < i → xs[j]? = some y → ∃ d, DeedAt H y d) ∧ ∀ cls d H', KeepS b none T H H' → BookAt C H' b pg past → SeenAt H' sn [] → ErrAt mg H' cls d (.deeds i) → E cls d H') ∨
    ∃ ds, P2 (DeedAt H) xs ds ∧ (∀ d ∈ ds, DeedOk d) ∧ DoneC C mg T H Q E b sn ends pg past ds)
section
variable {P : Program} {w : World} {K : PySem.W.Frag} {mg : Str → Option Value} {base : Heap} {C : Addr}
theorem d_l_called {T : List (Addr × Str)} {c Pt : Addr} (F : AtT K mg "_law_called" s_l_called c) (TB : TabB base mg c Pt) (hm : (Pt, q_called) ∈ T) (hu : ∀ p ∈ T, p.1 = Pt → p.2 = q_called) (D_l_looked : Dn P w K mg base (L2N.CX P w) 3 "_law_looked" ["_law_book_here", "_law_held", "_law_ends_at", "_law_seen_here"] (spLooked C))
    (D_l_all : Dn P w K mg base (L2N.CX P w) 14 "_law_all" ["_law_book_here", "_law_d", "_law_look"] (spAll (FRn P w K mg base) C mg)) : Dn P w K mg base (L2N.CX P w) 15 "_law_called" ["_law_book_here", "_law_deeds", "_law_ends_at", "_law_seen_here"] (spCalled C mg T) := by
  refine F.fn sc_l_called (fun vs H Q E h => ?_) (fun _ _ _ _ _ _ us hl => match us, hl with | [_, _, _, _], _ => rfl) (fun f A outer s H vs Q E hr h => ?_)
  · obtain ⟨_, _, _, _, _, _, _, rfl, _⟩ := h
    rfl
  obtain ⟨b, dl, ends, sn, xs, pg, past, rfl, hT, hx, hxl, hb, hg, h1, h2, hs, hcase⟩ := h
  refine ⟨_, pss_one (ps_ret (pe_callC (fr := fr_called) (js := [0, 2, 3]) (scope := lamSc lam_called) D_l_all cxC_N hr (by decide) rfl (L2N.passes_call (L2N.takes_of rfl rfl rfl rfl) (fun _ _ _ _ h => h))
    (pa_cons (pv 0) (pa_cons (pv 1) (pa_cons (pe_lamE (q := q_called) TB rfl rfl hm hu hf_called) pa_nil))) hf_called hr_called rfl rfl (fun _ => rfl))), ?_⟩
  refine ⟨_, rfl, _, rfl, hT, fun fL c' pm ctv H1 eN T1 hfn0 hfn hco cs L hfree => ?_⟩
  have nx1 := NX.ext eN
  have S2 : Same H1 (plusC H1 cs) := fun c o e => plusC_keep hfree e
  have nx2 := nx1.trans (NX.of S2)
  have hb2 := hb.nx nx2
  obtain ⟨nd, md, pd, ⟨dx, hbi⟩, _, _⟩ := hb.nx nx1
  refine ⟨b, dl, .ref fL, xs, rfl, nx2 _ _ hx (fun _ z => by cases z) (fun _ z => by cases z), pg, past, hxl, hb2, hg, h1, h2, ?_⟩
  rcases hcase with ⟨i, v, e1, e2, e3, e4⟩ | ⟨ds, e1, e2, e3⟩
  · refine .inl ⟨i, v, e1, e2.nx nx2, fun j y hj hy => let ⟨d, hd⟩ := e3 j y hj hy; ⟨d, hd.td nx2.td⟩, fun cls d H3 S3 hea => ?_⟩
    obtain ⟨hc, ks⟩ := keepS_of (b := b) (wd := none) eN T1 hfree hbi (fun d z => by cases z) (H3 := H3) (fun a o _ _ e => S3 a o e)
    have nx4 := nx2.trans ((NX.of S3).trans (NX.minus hc))
    exact ⟨hc, e4 cls d _ ks (hb.nx nx4) (hs.nx nx4) (hea.nx (NX.minus hc))⟩
  · let F3 : NF := ⟨"<lambda>", q_called, lamP lam_called, [], lamSc lam_called, cloFrom (cellsFrom (s.heap.objs.size + 1) (defScope s_l_called).names []) (lamSc lam_called).names [], c'⟩
    let t3 : XK → TE := fun E => tCall (spLooked C) [] E (tCons (tVar 1) (tCons (tVar 0) (tCons (tVar 2) (tCons (tVar 3) tNil))))
    let sl3 : Sp := lamSp NL_called ["_law_held"] F3 (lamB lam_called) fL pm ctv [some (.ref b), some (.int (ends : Int)), some (.ref sn)] cs t3
    have hfr : FRn P w K mg base fL sl3 := by
      refine lam_fnR (fr := fr_called) cxC_N sc_lam_called (fun us hl => match us, hl with | [_], _ => rfl) L fun A outer s H E hr => ?_
      exact pe_fnX D_l_looked hr (Nat.le_refl 3) rfl (L2N.passes_call (L2N.takes_of rfl rfl rfl rfl) (fun _ _ _ _ h => h)) (pa_cons (pv 1) (pa_cons (pv 0) (pa_cons (pv 2) (pa_cons (pv 3) pa_nil))))
    have ok : WdOk (FRn P w K mg base) C b (plusC H1 cs) ⟨fL, sl3, sn, ends⟩ := by
      refine ⟨hfr, ⟨_, _, _, _, S2 _ _ hfn⟩, fun H' Q' E' kx hw => ?_, hs.nx nx2⟩
      have hc' : HasC H' cs := fun c o e => kx c _ (plusC_in e)
      refine ⟨rfl, hc', kx _ _ (S2 _ _ hfn), kx _ _ (S2 _ _ hco), ?_⟩
      exact ⟨_, rfl, _, rfl, _, rfl, _, rfl, b, sn, ends, rfl, spW_minus hc' hw⟩
    refine .inr ⟨ds, some ⟨fL, sl3, sn, ends⟩, e1.imp fun _ _ h => h.td nx2.td, e2, .inr ⟨_, rfl, rfl, ok⟩, ?_⟩
    have hs1 : SeenW H1 (some ⟨fL, sl3, sn, ends⟩) [] := fun d z => by cases z; exact hs.nx nx1
    -- what is left behind it
    have fin : ∀ H3, KeepW b (some ⟨fL, sl3, sn, ends⟩) (plusC H1 cs) H3 → HasC H3 cs ∧ KeepS b (some sn) T H (minusC H3 cs) := fun H3 k => keepS_of eN T1 hfree hbi hs1 k
    unfold DoneC at e3
    unfold Done
    show match (if 0 < ends ∧ ends ≤ (runs pg ds).1.length then some ends else none) with | some e => _ | none => _
    by_cases cc : 0 < ends ∧ ends ≤ (runs pg ds).1.length
    · rw [if_pos cc] at e3 ⊢
      intro d H3 k hb3 hs3
      obtain ⟨hc, ks⟩ := fin H3 k
      exact ⟨hc, e3 d _ ks (hb3.nx (NX.minus hc)) ((hs3 _ rfl).nx (NX.minus hc))⟩
    · rw [if_neg cc] at e3 ⊢
      cases er : (runs pg ds).2 with
      | some e =>
        rw [er] at e3
        intro cls d H3 k hb3 hs3 hea
        obtain ⟨hc, ks⟩ := fin H3 k
        exact ⟨hc, e3 cls d _ ks (hb3.nx (NX.minus hc)) ((hs3 _ rfl).nx (NX.minus hc)) (hea.nx (NX.minus hc))⟩
      | none =>
        rw [er] at e3
        intro H3 k hb3 hs3
        obtain ⟨hc, ks⟩ := fin H3 k
        exact ⟨hc, e3 _ ks (hb3.nx (NX.minus hc)) ((hs3 _ rfl).nx (NX.minus hc))⟩
end
end Pp
-- F4
/-! the error asked: a def called where an own error (with a dict) is handled (ExcIs, HotCalls turned) -/
namespace Pp
namespace Ei
open PySem PySem.W PySem.Spec PySem.Calls PyProof.Rows
section
variable {prog : Program} {w : World} {A : Around} {E : Value → Shared → Prop} {s : Shared} {K : Frag} {x D : Addr} {ox : Obj}
theorem kin_classP {od : Obj} {Q : Option Value → Shared → Prop} (hga : findIn K (.ref D) "__getattribute__" = some (some (.builtin "BaseException.__getattribute__"))) (hgt : findIn K (.ref D) "__getattr__" = some none) (hsub : subIn K (.ref D) (.type "BaseException") = some true)
    (hdct : hasDictIn K D = true) (ha : findIn K (.ref D) "__class__" = some (some (.builtin "object.__class__")))
    (hn : specialIn K (.builtin "object.__class__") "__get__" = some (some (.builtin "getset_descriptor.__get__"))) (htk : takesIn K (.builtin "object.__class__") = some true) (hm : mroIn K D (.type "object") = some true)
    (X : K.In s.heap) (I : InstAt s.heap x ox D (some od)) (h : Q (some (.ref D)) { s with toks := s.toks + 1 }) : wpAny (model prog w) A (getAttr? (.ref x) "__class__") Q E s := by
  have hf : findObj K D (some od) "__class__" = some (.bind (.builtin "getset_descriptor.__get__") (.builtin "object.__class__")) := findObj_data (by obtain ⟨cd, hc, _⟩ := any_some hdct; rw [hc]; rfl) ha hn htk
  obtain ⟨hp, g, d, t, os⟩ := s
  have L0 := I.type (M := model prog w)
  have L1 := looks_findIn (M := model prog w) X hga
  have L2 := looks_findIn (M := model prog w) X hgt
  have L3 := looks_find (M := model prog w) X I hf
  have sub : Looks (model prog w) hp (isInstance (.ref x) (.type "BaseException")) true := L0.andThen (looks_subIn X hsub)
  have hx0 : (false && onTheHeap (Value.builtin "BaseException.__getattribute__")) = false := rfl
  have hx2 : (Value.builtin "BaseException.__getattribute__" == Value.builtin "object.__getattribute__") = false := by decide +kernel
  have hx1 : (onTheHeap (Value.ref D) && Value.builtin "BaseException.__getattribute__" == Value.builtin "object.__getattribute__") = false := by rw [hx2]; rfl
  unfold getAttr? getAttrBy? getAttrBy
  refine wpAny_bind (wpAny_mkText (wpAny_bind (wpAny_attempt (wpAny_holding (wpAny_bind (L0.at (wpAny_bind (L1.at ?_))))))))
  show wpAny _ _ (if (onTheHeap (Value.ref D) && Value.builtin "BaseException.__getattribute__" == Value.builtin "object.__getattribute__") = true then _ else _) _ _ _
  rw [hx1, if_neg Bool.false_ne_true]
  unfold getAttrByItsOwn hookBefore
  refine wpAny_bind ?_
  rw [if_pos (show onTheHeap (Value.ref D) = true from rfl)]
  refine L2.at ?_
  refine wpAny_bind (wpAny_attempt (wpAny_holding ?_))
  unfold callGetattribute
  rw [hx0, if_neg Bool.false_ne_true]
  unfold boundAndCalled
  rw [PySem.F.excAttr_ValueError.ga.bind (.ref x)]
  refine wpAny_bind (wpAny_pure ?_)
  show wpAny _ _ (call (.builtin "BaseException.__getattribute__") [.ref x, .str "__class__" t]) _ _ _
  refine wpAny_call (codeAny_call_builtin PySem.F.excAttr_ValueError.ga.plain PySem.F.entry_bexc_ga ?_)
  refine @check_slot (model prog w) _ _ ⟨hp, g, d, t + 1, os⟩ "BaseException.__getattribute__" "BaseException" "__getattribute__" (.ref x) [.str "__class__" t] [] _ (by decide +kernel) (by decide +kernel) sub (PySem.F.args_bexc_ga (.ref x) (.str "__class__" t)) ?_
  unfold Builtin.«object.__getattribute__»
  refine wpAny_bind (wpAny_of_eq (a := ((Value.ref x : Value), [Value.str "__class__" t])) (by first | rfl | (simp only [slotArgs]; rfl)) ?_)
  refine wpAny_bind (wpAny_pure (wpAny_bind (L0.at (wpAny_bind (L3.at ?_)))))
  show wpAny _ _ (holding [Value.builtin "object.__class__"] (call (.builtin "getset_descriptor.__get__") [.builtin "object.__class__", .ref x, .ref D]) >>= ret) _ _ _
  refine wpAny_bind (wpAny_holding (wpAny_call (class_get (s := ⟨hp, g, d, t + 1, os⟩) (ox := ox) (od := some od) X I hm ?_)))
  refine wpAny_pure ?_
  show wpAny _ _ (handedOut (.ref D)) _ _ _
  rw [handedOut_of (v := .ref D) rfl]
  first
    | exact wpAny_pure (wpAny_pure h)
    | exact wpAny_pure h
    | exact wpAny_pure (wpAny_bind (wpAny_pure (wpAny_pure h)))
theorem kitx_excP (hga : findIn K (.ref D) "__getattribute__" = some (some (.builtin "BaseException.__getattribute__"))) (hgt : findIn K (.ref D) "__getattr__" = some none) (hsub : subIn K (.ref D) (.type "BaseException") = some true) (hdct : hasDictIn K D = true) (ha : findIn K (.ref D) "__class__" = some (some (.builtin "object.__class__")))
    (hn : specialIn K (.builtin "object.__class__") "__get__" = some (some (.builtin "getset_descriptor.__get__"))) (htk : takesIn K (.builtin "object.__class__") = some true) (hm : mroIn K D (.type "object") = some true) :
    KitX K (.ref x) (.ref D) (fun h => ∃ od, InstAt h x ox D (some od)) where
  ty := fun _ _ _ ⟨_, I⟩ => I.type
  it := fun _ _ X _ => by
    obtain ⟨cdD, hcD, _⟩ := any_some hdct
    unfold clsIn at hcD
    split at hcD
    · rename_i c' d' cd' sl' ho
      intro A' Q' E' s' k q
      unfold isType loadHead
      exact wpAny_bind (wpAny_loadPart (k _ _ (X _ _ ho)) (wpAny_pure q))
    · cases hcD
  ne := fun h tp dd its n sl X htp => by
    obtain ⟨cdD, hcD, _⟩ := any_some hdct
    refine Bool.eq_false_iff.mpr fun q => ?_
    have e : D = tp := Value.ref.inj (beq_iff_eq.mp q)
    subst e
    unfold clsIn at hcD
    split at hcD
    · rename_i c' d' cd' sl' ho
      have z := (X _ _ ho).symm.trans htp
      cases z
    · cases hcD
  ca := fun X ⟨_, I⟩ k => kin_classP hga hgt hsub hdct ha hn htk hm X I k
end
end Ei
open PySem PySem.Spec PyProof.Rows L2 L2H
theorem ps_parH {X : Cx} {pos : Pos} {i j : Nat} {x y : Str} {a b : Expr} {ta : TA} {px py pt : Pos} {kt k2 pt2} (hc : L2H.HotC X) (hN : X.N.Nodup) (hi : X.N[i]? = some x) (hj : X.N[j]? = some y) (hij : i ≠ j)
    (hx : X.env.scope.names.lookup x = some .local) (hy : X.env.scope.names.lookup y = some .local) (ha : PA X [a, b] ta)
    (hw : swappedStores [.Tuple [.Name x px, .Name y py] kt pt] (.Tuple [a, b] k2 pt2) X.env = pure (some [x, y]))
    (hs : swapsWithSole [.Tuple [.Name x px, .Name y py] kt pt] (.Tuple [a, b] k2 pt2) pos.line X.env = pure false := by rfl) :
    PS X (.Assign [.Tuple [.Name x px, .Name y py] kt pt] (.Tuple [a, b] k2 pt2) pos) (tPar i j ta) := by
  refine ⟨fun pins s σ H D I h => ?_⟩
  rw [exec_Assign_arm]
  refine wpAny_bind (wpAny_standAt ?_)
  rw [hs]
  refine wpAny_bind (wpAny_pure ?_)
  rw [if_neg (by decide)]
  refine wpAny_bind (Tuple_ (thn (ha.run _ pins s σ H _ I h) fun us s1 ⟨vs, H1, I1, r1, q1⟩ => ?_))
  obtain ⟨v, w, e1, q1⟩ := q1
  subst e1
  obtain ⟨u1, u2, rfl, rv, rw'⟩ : ∃ u1 u2, us = [u1, u2] ∧ RelV v u1 ∧ RelV w u2 := by
    cases r1 with
    | cons p q =>
      cases q with
      | cons p' q' =>
        cases q'
        exact ⟨_, _, rfl, p, p'⟩
  refine wpAny_newObj_type ?_ (by show 2 ≤ sizeLine; decide)
  have I2 : Inv X pins σ H1 { s1 with heap := s1.heap.push { cls := .type "tuple", data := .seq [u1, u2].toArray } } := I1.kept (t' := s1.toks) fun b o e => Heap.get?_push_of_some _ e
  rw [hw]
  refine wpAny_bind (wpAny_pure ?_)
  obtain ⟨x1, hot⟩ := hc.at I2
  show wpAny (model X.prog X.w) X.A (do rule "assign.swapped-stores"; let items ← unpackItems (.ref s1.heap.objs.size) 2 none; assignInOrder [fun v => bindName X.env y v, fun v => bindName X.env x v] items.reverse; pure Flow.next) _ _ _
  refine wpAny_bind (wpAny_rule (wpAny_bind (unpack_hot (items := #[u1, u2]) hot (IsTup.new s1.heap _) fun h' hx' => ?_)))
  have I3 := I2.kept (h' := h') (t' := s1.toks) fun b o e => hx' b o (Nat.ne_of_lt (Heap.lt_size e)) e
  show wpAny _ _ (assignInOrder [fun v => bindName X.env y v, fun v => bindName X.env x v] [u2, u1] >>= fun _ => pure Flow.next) _ _ _
  refine wpAny_bind (assignInOrder_cons (wpAny_bindName (store_ok I3 hN hj (.inl hy) rw' (fun s2 I4 => ?_) (.inr hy))))
  refine assignInOrder_cons (wpAny_bindName (store_ok I4 hN hi (.inl hx) rv (fun s3 I5 => assignInOrder_nil (wpAny_pure ?_)) (.inr hx)))
  rw [List.set_comm _ _ (Ne.symm hij)] at I5
  exact ⟨_, H1, I5, q1⟩

section
variable {X : Cx} {a D : Addr} {oe : Obj} {d : Addr}
theorem inst_pin {pins : List (Addr × Obj)} {σ : L2.St} {H : Hp} {s : Shared} {fs : List (Str × V)} (I : Inv X pins σ H s) (hp : (a, oe) ∈ X.pn) (hz : L2N.Zn (.ref D) (some d) oe) (hf : ∃ vs, oe.data = .fields vs) (hd : H d = some (.xd fs)) :
    ∃ od, PySem.W.InstAt s.heap a oe D (some od) ∧ ∃ mA, s.heap.Ns1 d mA ∧ (∀ f, RelO (fs.lookup f) (mA f)) ∧ ∀ f, PySem.W.lookIn f od = some (mA f) := by
  obtain ⟨hget, _⟩ := I.pin (a, oe) (List.mem_append_left _ hp)
  obtain ⟨vs, hv⟩ := hf
  have hx : ObjOk X.prog X.w H s.heap d (.xd fs) := I.hok d _ hd
  obtain ⟨mA, hns, hr⟩ := hx
  obtain ⟨od, ho, hl⟩ := lookIn_ns hns
  exact ⟨od, ⟨hget, hz.1, by unfold PySem.W.notCls; rw [hv] <;> rfl, by rw [hz.2.1]; exact ho⟩, mA, hns, hr, hl⟩
/-- isinstance(e, c), e the pinned error -/
theorem call_isP (C : ExcC X.K D) (hp : (a, oe) ∈ X.pn) (hz : L2N.Zn (.ref D) (some d) oe) (hf : ∃ vs, oe.data = .fields vs) : CallR X (.builtin "isinstance") (fun xs H Q => ∃ (c : V) (cv : Value) (b : Bool) (fs : List (Str × V)), H d = some (.xd fs) ∧ xs = [.ref a, c] ∧ (∀ u, RelV c u → u = cv) ∧ PySem.W.kitOne X.K (.ref D) cv = some b ∧ Q (.bl b) H) := by
  intro pins s σ H xs us Q I r h
  obtain ⟨c, cv, b, fs, hd, rfl, hcv, e, q⟩ := h
  cases r with
  | cons rx rr =>
    cases rr with
    | cons rt rr =>
      cases rr
      cases rx
      have ec := hcv _ rt
      subst ec
      obtain ⟨od, J, _⟩ := inst_pin I hp hz hf hd
      exact PySem.W.kia_one (Ei.kitx_excP C.hg C.hk C.hs C.hd C.ha C.hn C.ht C.hm) I.kIn ⟨od, J⟩ e (fun z => nomatch z) fun tk => ⟨.bl b, H, I.kept (t' := tk) fun _ _ z => z, rfl, q⟩
/-- e.f of the pinned error -/
theorem pe_xfP {e : Expr} {te : TE} {pos : Pos} {n : Str} (T : XfC X.K D) (hno : PySem.W.findIn X.K (.ref D) n = some none) (hp : (a, oe) ∈ X.pn) (hz : L2N.Zn (.ref D) (some d) oe) (hf : ∃ vs, oe.data = .fields vs) (he : PE X e te)
    (hb : attributeBase e n X.env (eval e X.env) = eval e X.env := by rfl) : PE X (.Attribute e n pos) (fun σ H Q => te σ H fun x H1 => x = .ref a ∧ ∃ (fs : List (Str × V)) (v : V), H1 d = some (.xd fs) ∧ fs.lookup n = some v ∧ Q v H1) := by
  refine ⟨fun pins s σ H Q I h => ?_⟩
  refine attr_of hb (thn (he.run pins s σ H _ I h) fun u s1 hh => ?_)
  obtain ⟨x, H1, I1, rx, ex, fs, v, ea, l, q⟩ := hh
  subst ex
  obtain rfl : u = Value.ref a := rx
  obtain ⟨od, J, mA, _, hr, hl⟩ := inst_pin I1 hp hz hf ea
  obtain ⟨u, hu, ru⟩ := RelO.some_of (v := v) (o := mA n) (by rw [← l]; exact hr n)
  exact HandSPX.exc_get I1.kIn J T.ga T.gg T.exC (PySem.W.findObj_own T.hdC hno rfl (by rw [hl, hu])) (handed_of ru) ⟨v, H1, I1.tok _, ru, q⟩
theorem call_repr_str : CallR X (.builtin "repr") (fun xs H Q => ∃ z, xs = [.str z] ∧ (reprText z).length ≤ sizeLine ∧ Q (.str (reprText z)) H) := by
  intro pins s σ H xs us Q I r h
  obtain ⟨z, rfl, hz, q⟩ := h
  obtain ⟨u, rfl, t, rfl⟩ := vals1 r
  exact PySem.P.repr_of_str (hsz := hz) ⟨.str _, H, I.tok _, ⟨_, rfl⟩, q⟩
/-- l.count(x), x and the items flat -/
theorem mt_countF : MtR X "list.count" (fun x xs H Q => ∃ (p : Addr) (ys : List V) (k : V), x = .ref p ∧ xs = [k] ∧ H p = some (.lst ys) ∧ flatV k = true ∧ ys.all flatV = true ∧ Q (.int ((ys.countP fun y => eqV y k) : Nat)) H) := by
  intro pins s σ H x xs v us Q I rx rxs h
  obtain ⟨p, ys, k, rfl, rfl, hs, fk, fy, q⟩ := h
  cases rx
  obtain ⟨u, rfl, ru⟩ := rxs.one
  obtain ⟨its, rv, ⟨⟨cls, dd, data, sl⟩, n, ho, hc, hdn, hd⟩, hlen⟩ := I.list (SqL.of hs)
  simp only at hc hd
  subst hc hd
  refine call_meets PySem.F.slot_list_count ⟨_, ho, rfl⟩ PySem.F.entry_list_count (PySem.F.args_list_count_2 _ _)
    (SeqAt.list_countAt p its.toArray n dd sl u (eqU k)) ⟨ho, fun y hy => mem_eqAt ru fk rv fy y (by simpa using hy), ?_⟩
  have ec : its.toArray.toList.countP (eqU k) = ys.countP fun y => eqV y k := by
    clear ho q hlen hs
    have : ∀ {ys : List V} {its : List Value}, Vals ys its → ys.all flatV = true → its.countP (eqU k) = ys.countP fun y => eqV y k := by
      intro ys its r
      induction r with
      | nil => intro _; rfl
      | cons r t ih =>
        intro f
        rw [List.all_cons, Bool.and_eq_true] at f
        rw [List.countP_cons, List.countP_cons, ih f.2, eqU_of r f.1]
    exact this rv fy
  refine ⟨.int ((ys.countP fun y => eqV y k) : Nat), H, I.tok _, ⟨s.toks, ?_⟩, q⟩
  show Value.int ((its.toArray.toList.countP (eqU k) : Nat) : Int) s.toks = Value.int ((ys.countP (fun y => eqV y k) : Nat) : Int) s.toks
  rw [ec]
end
end Pp
-- F5
namespace Pp
open PySem PySem.Spec PyProof.Rows L2 L2H
/-- a def run where p's error is handled (HotCalls' fn_ofH, the promise told of p) -/
theorem run_hot {CX : CXT} {P : Program} {w : World} {K : PySem.W.Frag} {mg : Str → Option Value} {base : Heap} {k : Nat} {f : Addr} {name qual : Str} {params : Arguments} {body : List Stmt} {scope : Scope} {dV kV doc pm cdv ct oc : Value} {an od : Option Addr}
    {osl : Array (Option Value)} {N ps : List Str} (lk : K.lookup f = some ⟨oc, od, .func (PySem.W.fnOf name qual params body scope dV kV doc pm an cdv ct), osl⟩) (hcd : PySem.W.codeIn K cdv qual = true) (S : FnScope N ps scope)
    {A : Around} {outer : List Env} {s : Shared} {H : Hp} {args : Args} {us : List Value} {vs : List V} {Q : VK} {E : XK} {p : Addr × Obj} (hr : RoomH (k + 1) A) (hpin : PinOk outer H s p) (e0 : Env0 P w K mg base A outer s H)
    (hb : BindsTo s (PySem.W.fnOf name qual params body scope dV kV doc pm an cdv ct) args (ps.zip us)) (r : Vals vs us) (hl : vs.length = ps.length)
    (hbody : RoomH k (A.deeper (envOfC qual scope s.heap.objs.size f cdv)) → ∃ t, PSs (cxH CX P w K mg base N qual scope f cdv A outer s H E p) body t ∧ t { nx := fun _ H' => Q .non H', rt := Q } (L2.start N vs) H) :
    codeAny (model P w) A (.call (.ref f) args) (CR CX outer P w H s Q E) s := by
  have KX : K.In s.heap := e0.mod.kin.keeps fun b o e => (e0.bs b o e).1
  have lim : s.heap.NoLimit := e0.mod.nolimit.keeps fun b o e => (e0.bs b o e).1
  have hkind : ∀ y ∈ ps.zip us, scope.names.lookup y.1 = some .local ∨ (scope.names.lookup y.1 = some .cell ∧ ((cellsFrom (s.heap.objs.size + 1) scope.names []).lookup y.1).isSome = true) := fun ⟨n, v⟩ hy => by
    rcases S.par n (List.of_mem_zip hy).1 with q | q
    · exact .inl q
    · exact .inr ⟨q, PySem.W.cellsFrom_some _ _ _ (.inl q)⟩
  refine codeAny_call_function hr.depth (KX _ _ lk) rfl S.co S.gen rfl (PySem.W.codeRec_of KX hcd) (hb _ _ _ _ ?_)
  refine wpAny_newFunctionEnv_cells S.kind hkind fun env he s1 x => ?_
  subst he
  refine ⟨lim.keeps x.toInCall.keep, codeAny_func ?_⟩
  obtain ⟨t, ht, hq⟩ := hbody (hr.deeper _)
  have I : Inv (cxH CX P w K mg base N qual scope f cdv A outer s H E p) [] (L2.start N vs) H s1 := inv_startH S hpin e0 hl r x
  refine wpAny_mono (ht.run [] s1 (L2.start N vs) H _ I hq) (fun fl s' hs => ?_) fun e s' hs => hs
  have fin : ∀ {σ' : L2.St} {H' : Hp} {v : V} {u : Value}, Inv (cxH CX P w K mg base N qual scope f cdv A outer s H E p) [] σ' H' s' → RelV v u → Q v H' → CE outer P w H s Q u s' :=
    fun {σ' H' v u} J rv q => ⟨v, H', J.os, J.bare, J.base, J.hok, rv, q⟩
  cases fl with
  | ret u =>
    obtain ⟨v, σ', H', J, rv, q⟩ := hs
    exact fin J rv q
  | next =>
    obtain ⟨σ', H', J, q⟩ := hs
    exact fin (v := V.non) (u := Value.none) J rfl q
  | brk =>
    obtain ⟨_, _, _, q⟩ := hs
    exact False.elim q
  | cont =>
    obtain ⟨_, _, _, q⟩ := hs
    exact False.elim q


/-- the classes that the slip asks for -/
inductive Cn where
  | WrongValue | WrongName | NoAnswer | Broken | InUse | InvalidDeeds | InvalidIndex | InvalidName | InvalidNumber | InvalidWish | NothingToUndo | UnknownName
def Cn.nm : Cn → Str
  | .WrongValue => "WrongValue"
  | .WrongName => "WrongName"
  | .NoAnswer => "NoAnswer"
  | .Broken => "Broken"
  | .InUse => "InUse"
  | .InvalidDeeds => "InvalidDeeds"
  | .InvalidIndex => "InvalidIndex"
  | .InvalidName => "InvalidName"
  | .InvalidNumber => "InvalidNumber"
  | .InvalidWish => "InvalidWish"
  | .NothingToUndo => "NothingToUndo"
  | .UnknownName => "UnknownName"
/-- which error is one of which class -/
def isTab : Err → Cn → Bool
  | .unknown _, .WrongName => true
  | .unknown _, .UnknownName => true
  | .inUse _, .NoAnswer => true
  | .inUse _, .InUse => true
  | .broken _, .NoAnswer => true
  | .broken _, .Broken => true
  | .index _, .WrongValue => true
  | .index _, .InvalidIndex => true
  | .deeds _, .WrongValue => true
  | .deeds _, .InvalidDeeds => true
  | _, _ => false
/-- of the built-in three -/
def isB : Err → Bool × Bool × Bool
  | .unknown _ => (false, true, false)
  | .inUse _ => (false, false, true)
  | .broken _ => (false, false, true)
  | .index _ => (true, false, false)
  | .deeds _ => (true, false, false)
structure SlipK (K : PySem.W.Frag) (mg : Str → Option Value) : Prop where
  own : ∀ c : Cn, mg c.nm = some (.ref (clsA mg c.nm))
  kit : ∀ (e : Err) (c : Cn), PySem.W.kitOne K (.ref (clsA mg e.cls)) (.ref (clsA mg c.nm)) = some (isTab e c)
  kv : ∀ e : Err, PySem.W.kitOne K (.ref (clsA mg e.cls)) (.type "ValueError") = some (isB e).1
  kl : ∀ e : Err, PySem.W.kitOne K (.ref (clsA mg e.cls)) (.type "LookupError") = some (isB e).2.1
  ka : ∀ e : Err, PySem.W.kitOne K (.ref (clsA mg e.cls)) (.type "ArithmeticError") = some (isB e).2.2
  ex : ∀ e : Err, ExcC K (clsA mg e.cls)
def Err.rep : Err → Str
  | .unknown A => reprText A
  | .inUse i => toString (i : Int)
  | .broken i => toString (i : Int)
  | .index i => toString (i : Int)
  | .deeds i => toString (i : Int)
/-- small enough -/
def Err.ok : Err → Prop
  | .unknown A => Title A
  | .inUse i => i < 10000
  | .broken i => i < 10000
  | .index i => i < 10000
  | .deeds i => i < 10000
def spSlip (mg : Str → Option Value) (p : Addr × Obj) (H : Hp) (Q : VK) : Prop := ∃ (e : Err) (d : Addr), (∃ vs, p.2.data = .fields vs) ∧ L2N.Zn (.ref (clsA mg e.cls)) (some d) p.2 ∧ H d = some (.xd [(e.fld, e.val)]) ∧ e.ok ∧ ∀ r H', Same H H' → H' r = some (.lst [.str e.cls, .str e.rep]) → Q (.ref r) H'
structure SlipOk (P : Program) (w : World) (K : PySem.W.Frag) (mg : Str → Option Value) (base : Heap) (k : Nat) : Prop where
  ex : ∃ f fd, mg "_law_slip" = some (.ref f) ∧ PySem.W.keepIn K (.ref f) = true ∧ L2.Binds K fd ["_law_e"] [] ∧ ∀ (A : Around) (outer : List Env) (s : Shared) (H : Hp) (args : Args) (p : Addr × Obj) (Q : VK), RoomH k A → Hot1 A p → PinOk outer H s p → Env0 P w K mg base A outer s H →
    BindsTo s fd args ((["_law_e"] : List Str).zip [.ref p.1]) → spSlip mg p H Q → codeAny (model P w) A (.call (.ref f) args) (CR CX0 outer P w H s Q E0) s
theorem rep_title {A : Str} (h : Title A) : (reprText A).length ≤ sizeLine := by rcases h with rfl | rfl | rfl <;> exact Nat.le_trans (by decide +kernel : _ ≤ 10) (by decide)
theorem log_small {i : Nat} (h : i < 10000) : ((i : Int)).natAbs.log2 < 1920 := by
  rw [Int.natAbs_natCast]
  by_cases z : i = 0
  · subst z; decide
  · exact Nat.lt_trans ((Nat.log2_lt z).mpr (Nat.lt_trans h (by decide : 10000 < 2 ^ 14))) (by decide)
theorem slip_heap {H2 : Hp} {l3 l4 : Addr} {x : List V} (h3 : H2 l3 = none) (h4 : upd H2 l3 (.lst []) l4 = none) :
    Same H2 (upd (upd (upd H2 l3 (.lst [])) l4 (.lst x)) l3 (.lst ([] ++ [V.ref l4]))) ∧ upd (upd (upd H2 l3 (.lst [])) l4 (.lst x)) l3 (.lst ([] ++ [V.ref l4])) l3 = some (.lst [V.ref l4]) ∧ upd (upd (upd H2 l3 (.lst [])) l4 (.lst x)) l3 (.lst ([] ++ [V.ref l4])) l4 = some (.lst x) := by
  have n : l4 ≠ l3 := fun z => by rw [z, upd_same] at h4; cases h4
  refine ⟨fun c o e => ?_, upd_same, by rw [upd_ne n, upd_same]⟩
  have c3 : c ≠ l3 := ne_of_none e h3
  rw [upd_ne c3]
  exact same_new h4 _ _ (same_new h3 _ _ e)
abbrev s_l_slip : Stmt := top 77
theorem sc_l_slip : FnScope ["_law_e", "_law_bases", "_law_kinds", "_law_found"] ["_law_e"] (defScope s_l_slip) := ⟨rfl, rfl, rfl, by decide +kernel, rfl, by decide +kernel, by decide +kernel⟩
abbrev N_l_slip : List Str := ["_law_e", "_law_bases", "_law_kinds", "_law_found"]
section
variable {P : Program} {w : World} {K : PySem.W.Frag} {mg : Str → Option Value} {base : Heap}
theorem d_l_slip (F : At K mg "_law_slip" s_l_slip) (B : Blt mg) (EK : ErK K mg) (SK : SlipK K mg) : SlipOk P w K mg base 1 := by
  obtain ⟨f, fd, F0, hm⟩ := F.ex
  obtain ⟨oc, od, kV, doc, pm, an, cdv, ct, osl, rfl, lk, hcd⟩ := id F0.ex
  refine ⟨f, _, hm, F0.kp, F0.binds (fun _ _ _ _ _ _ us hl => match us, hl with | [_], _ => rfl), fun A outer s H args p Q hr hot hpin e0 hb hsp => ?_⟩
  refine run_hot (N := N_l_slip) lk hcd sc_l_slip hr hpin e0 hb (vs := [.ref p.1]) (.cons rfl .nil) rfl fun hr => ?_
  obtain ⟨a, oe⟩ := p
  obtain ⟨e, d, hf, hz, hd, ho, k⟩ := hsp
  have hu64 : (A.deeper (envOfC "_law_slip" (defScope s_l_slip) s.heap.objs.size f cdv)).units + 64 < cLine := by have := hr.un; omega
  have hpn : (a, oe) ∈ ([(a, oe)] : List (Addr × Obj)) := List.mem_cons_self
  obtain ⟨qual, fI, T⟩ := EK.at_ e
  have xf : XfC K (clsA mg e.cls) := ⟨T.ga, T.gg, T.exC, T.hdC⟩
  have hot' : HotC (cxH CX0 P w K mg base N_l_slip "_law_slip" (defScope s_l_slip) f cdv A outer s H E0 (a, oe)) := ⟨(a, oe), hot, List.mem_cons_self⟩
  cases e with
  | unknown A =>
    refine ⟨_, (pss_cons (ps_set (i := 1) sc_l_slip.nd rfl (.inl rfl) (pe_lst (pa_cons (pe_callB (id := "isinstance") (call_isP (SK.ex (.unknown A)) hpn hz hf) (by rfl) B.isinstance (by decide +kernel) (pa_cons (pv 0) (pa_cons (pe_glob (v := .ref (clsA mg "WrongValue")) rfl (SK.own .WrongValue) rfl) pa_nil))) (pa_cons (pe_callB (id := "isinstance") (call_isP (SK.ex (.unknown A)) hpn hz hf) (by rfl) B.isinstance (by decide +kernel) (pa_cons (pv 0) (pa_cons (pe_glob (v := .ref (clsA mg "WrongName")) rfl (SK.own .WrongName) rfl) pa_nil))) (pa_cons (pe_callB (id := "isinstance") (call_isP (SK.ex (.unknown A)) hpn hz hf) (by rfl) B.isinstance (by decide +kernel) (pa_cons (pv 0) (pa_cons (pe_glob (v := .ref (clsA mg "NoAnswer")) rfl (SK.own .NoAnswer) rfl) pa_nil))) pa_nil)))))
  (pss_cons (ps_parH (i := 2) (j := 3) hot' sc_l_slip.nd rfl rfl (by decide) rfl rfl (pa_cons (pe_lst (pa_cons (pe_callB (id := "isinstance") (call_isP (SK.ex (.unknown A)) hpn hz hf) (by rfl) B.isinstance (by decide +kernel) (pa_cons (pv 0) (pa_cons (pe_bltn (v := .ty "ValueError") (by rfl) B.valueError (by decide +kernel) rfl) pa_nil))) (pa_cons (pe_callB (id := "isinstance") (call_isP (SK.ex (.unknown A)) hpn hz hf) (by rfl) B.isinstance (by decide +kernel) (pa_cons (pv 0) (pa_cons (pe_bltn (v := .ty "LookupError") (by rfl) B.lookupError (by decide +kernel) rfl) pa_nil))) (pa_cons (pe_callB (id := "isinstance") (call_isP (SK.ex (.unknown A)) hpn hz hf) (by rfl) B.isinstance (by decide +kernel) (pa_cons (pv 0) (pa_cons (pe_bltn (v := .ty "ArithmeticError") (by rfl) B.arithmeticError (by decide +kernel) rfl) pa_nil))) pa_nil)))) (pa_cons (pe_lst pa_nil) pa_nil)) (by rfl))
  (pss_cons (ps_if (pt_val (pe_callB (id := "isinstance") (call_isP (SK.ex (.unknown A)) hpn hz hf) (by rfl) B.isinstance (by decide +kernel) (pa_cons (pv 0) (pa_cons (pe_glob (v := .ref (clsA mg "Broken")) rfl (SK.own .Broken) rfl) pa_nil)))) (pss_one ps_never) pss_nil)
  (pss_cons (ps_if (pt_val (pe_callB (id := "isinstance") (call_isP (SK.ex (.unknown A)) hpn hz hf) (by rfl) B.isinstance (by decide +kernel) (pa_cons (pv 0) (pa_cons (pe_glob (v := .ref (clsA mg "InUse")) rfl (SK.own .InUse) rfl) pa_nil)))) (pss_one ps_never) pss_nil)
  (pss_cons (ps_if (pt_val (pe_callB (id := "isinstance") (call_isP (SK.ex (.unknown A)) hpn hz hf) (by rfl) B.isinstance (by decide +kernel) (pa_cons (pv 0) (pa_cons (pe_glob (v := .ref (clsA mg "InvalidDeeds")) rfl (SK.own .InvalidDeeds) rfl) pa_nil)))) (pss_one ps_never) pss_nil)
  (pss_cons (ps_if (pt_val (pe_callB (id := "isinstance") (call_isP (SK.ex (.unknown A)) hpn hz hf) (by rfl) B.isinstance (by decide +kernel) (pa_cons (pv 0) (pa_cons (pe_glob (v := .ref (clsA mg "InvalidIndex")) rfl (SK.own .InvalidIndex) rfl) pa_nil)))) (pss_one ps_never) pss_nil)
  (pss_cons (ps_if (pt_val (pe_callB (id := "isinstance") (call_isP (SK.ex (.unknown A)) hpn hz hf) (by rfl) B.isinstance (by decide +kernel) (pa_cons (pv 0) (pa_cons (pe_glob (v := .ref (clsA mg "InvalidName")) rfl (SK.own .InvalidName) rfl) pa_nil)))) (pss_one ps_never) pss_nil)
  (pss_cons (ps_if (pt_val (pe_callB (id := "isinstance") (call_isP (SK.ex (.unknown A)) hpn hz hf) (by rfl) B.isinstance (by decide +kernel) (pa_cons (pv 0) (pa_cons (pe_glob (v := .ref (clsA mg "InvalidNumber")) rfl (SK.own .InvalidNumber) rfl) pa_nil)))) (pss_one ps_never) pss_nil)
  (pss_cons (ps_if (pt_val (pe_callB (id := "isinstance") (call_isP (SK.ex (.unknown A)) hpn hz hf) (by rfl) B.isinstance (by decide +kernel) (pa_cons (pv 0) (pa_cons (pe_glob (v := .ref (clsA mg "InvalidWish")) rfl (SK.own .InvalidWish) rfl) pa_nil)))) (pss_one ps_never) pss_nil)
  (pss_cons (ps_if (pt_val (pe_callB (id := "isinstance") (call_isP (SK.ex (.unknown A)) hpn hz hf) (by rfl) B.isinstance (by decide +kernel) (pa_cons (pv 0) (pa_cons (pe_glob (v := .ref (clsA mg "NothingToUndo")) rfl (SK.own .NothingToUndo) rfl) pa_nil)))) (pss_one ps_never) pss_nil)
  (pss_cons (ps_if (pt_val (pe_callB (id := "isinstance") (call_isP (SK.ex (.unknown A)) hpn hz hf) (by rfl) B.isinstance (by decide +kernel) (pa_cons (pv 0) (pa_cons (pe_glob (v := .ref (clsA mg "UnknownName")) rfl (SK.own .UnknownName) rfl) pa_nil)))) (pss_one (ps_expr (pe_bm PySem.F.plainAttrs_list PySem.F.slot_list_append PySem.F.type_list_append mt_append (pv 3) (pa_cons (pe_lst (pa_cons pe_str (pa_cons (pe_callB (id := "repr") call_repr_str (by rfl) B.repr (by decide +kernel) (pa_cons (pe_xfP xf T.noN hpn hz hf (pv 0)) pa_nil)) pa_nil))) pa_nil)))) pss_nil)
  (pss_one (ps_ret (pe_ifExp (PW.pt (pw_and (pt_cmpR op_eq (pe_callB (id := "len") call_len_seq (by rfl) B.len (by decide +kernel) (pa_cons (pv 3) pa_nil)) pe_int (nomark _)) (pw_and (pt_cmpR (op_eqD hu64) (pv 1) (pv 2) (nomark _)) (pw_and1 (pt_cmpR op_eq (pe_bm PySem.F.plainAttrs_list PySem.F.slot_list_count PySem.F.type_list_count mt_countF (pv 1) (pa_cons pe_bl pa_nil)) pe_int (nomark _)))))) (pe_ix (r := rIxL K) ix_list (pv 3) pe_int (fun _ _ => rfl)) (pe_lst (pa_cons pe_str pa_nil)))))))))))))))), ?_⟩
    refine ⟨_, rfl, _, _, false, _, hd, rfl, fun _ h => h, SK.kit (.unknown A) .WrongValue, _, rfl, _, _, true, _, hd, rfl, fun _ h => h, SK.kit (.unknown A) .WrongName, _, rfl, _, _, false, _, hd, rfl, fun _ h => h, SK.kit (.unknown A) .NoAnswer, sz3, fun l1 hl1 => ?_⟩
    have S1 : Same H (upd H l1 (.lst [.bl false, .bl true, .bl false])) := same_new hl1
    have hd1 := S1 _ _ hd
    refine ⟨_, rfl, _, _, false, _, hd1, rfl, fun _ h => h, SK.kv (.unknown A), _, rfl, _, _, true, _, hd1, rfl, fun _ h => h, SK.kl (.unknown A), _, rfl, _, _, false, _, hd1, rfl, fun _ h => h, SK.ka (.unknown A), sz3, fun l2 hl2 => ⟨by decide, fun l3 hl3 => ⟨_, _, rfl, ?_⟩⟩⟩
    have S2 := S1.trans (same_new (o := .lst [.bl false, .bl true, .bl false]) hl2)
    have S3 := S2.trans (same_new (o := .lst []) hl3)
    have hd3 := S3 _ _ hd
    refine ⟨_, rfl, _, _, false, _, hd3, rfl, fun _ h => h, SK.kit (.unknown A) .Broken, _, rfl, iteF ⟨_, rfl, _, _, false, _, hd3, rfl, fun _ h => h, SK.kit (.unknown A) .InUse, _, rfl, iteF ⟨_, rfl, _, _, false, _, hd3, rfl, fun _ h => h, SK.kit (.unknown A) .InvalidDeeds, _, rfl, iteF ⟨_, rfl, _, _, false, _, hd3, rfl, fun _ h => h, SK.kit (.unknown A) .InvalidIndex, _, rfl, iteF ⟨_, rfl, _, _, false, _, hd3, rfl, fun _ h => h, SK.kit (.unknown A) .InvalidName, _, rfl, iteF ⟨_, rfl, _, _, false, _, hd3, rfl, fun _ h => h, SK.kit (.unknown A) .InvalidNumber, _, rfl, iteF ⟨_, rfl, _, _, false, _, hd3, rfl, fun _ h => h, SK.kit (.unknown A) .InvalidWish, _, rfl, iteF ⟨_, rfl, _, _, false, _, hd3, rfl, fun _ h => h, SK.kit (.unknown A) .NothingToUndo, _, rfl, iteF ⟨_, rfl, _, _, true, _, hd3, rfl, fun _ h => h, SK.kit (.unknown A) .UnknownName, _, rfl, iteT ?_⟩⟩⟩⟩⟩⟩⟩⟩⟩
    refine ⟨_, rfl, .inl ⟨rfl, _, SqL.of upd_same⟩, ?_⟩
    refine ⟨_, rfl, rfl, _, _, hd3, by rfl, ?_⟩
    refine ⟨_, rfl, rep_title ho, ?_⟩
    refine ⟨sz2, fun l4 hl4 => ⟨l3, [], .ref l4, rfl, rfl, same_new hl4 _ _ upd_same, by decide, ?_⟩⟩
    have hp := slip_heap (x := [.str "UnknownName", .str (reprText A)]) hl3 hl4
    generalize hH5 : upd (upd (upd (upd (upd H l1 (.lst [.bl false, .bl true, .bl false])) l2 (.lst [.bl false, .bl true, .bl false])) l3 (.lst [])) l4 (.lst [.str "UnknownName", .str (reprText A)])) l3 (.lst ([] ++ [V.ref l4])) = H5 at hp
    try rw [show upd (upd (upd (upd (upd H l1 (.lst [.bl false, .bl true, .bl false])) l2 (.lst [.bl false, .bl true, .bl false])) l3 (.lst [])) l4 (.lst [.str "UnknownName", .str (reprText A)])) l3 (.lst ([] ++ [V.ref l4])) = H5 from hH5]
    obtain ⟨S5, e3, e4⟩ := hp
    have hd5 := S5 _ _ (S2 _ _ hd)
    have e1 := S5 _ _ (same_new hl2 _ _ (upd_same (H := H) (a := l1) (o := .lst [.bl false, .bl true, .bl false])))
    have e2 := S5 _ _ (upd_same (H := upd H l1 (.lst [.bl false, .bl true, .bl false])) (a := l2) (o := .lst [.bl false, .bl true, .bl false]))

    refine ⟨_, rfl, l3, _, rfl, .inl (SqL.of e3), rfl, _, rfl, iteT ?_⟩
    refine ⟨_, rfl, _, rfl, .list [.bool false, .bool true, .bool false], .list [.bool false, .bool true, .bool false], .lst (SqL.of e1) (.cons (.bl _) (.cons (.bl _) (.cons (.bl _) .nil))), .lst (SqL.of e2) (.cons (.bl _) (.cons (.bl _) (.cons (.bl _) .nil))), by decide +kernel, by decide +kernel, true, by rw [show PyData.eqv (.list [.bool false, .bool true, .bool false]) (.list [.bool false, .bool true, .bool false]) = true by decide +kernel], iteT ?_⟩
    refine ⟨_, rfl, .inl ⟨rfl, _, SqL.of e1⟩, l1, _, _, rfl, rfl, e1, rfl, rfl, rfl, true, by rw [show decide (V.int ((List.countP (fun y => eqV y (V.bl true)) [V.bl false, V.bl true, V.bl false] : Nat) : Int) = V.int 1) = true by decide +kernel], iteT ?_⟩
    exact ⟨_, rfl, l3, _, 0, _, rfl, rfl, SqL.of e3, atI_nat (j := 0) rfl, k l4 H5 (S2.trans S5) e4⟩
  | inUse i =>
    refine ⟨_, (pss_cons (ps_set (i := 1) sc_l_slip.nd rfl (.inl rfl) (pe_lst (pa_cons (pe_callB (id := "isinstance") (call_isP (SK.ex (.inUse i)) hpn hz hf) (by rfl) B.isinstance (by decide +kernel) (pa_cons (pv 0) (pa_cons (pe_glob (v := .ref (clsA mg "WrongValue")) rfl (SK.own .WrongValue) rfl) pa_nil))) (pa_cons (pe_callB (id := "isinstance") (call_isP (SK.ex (.inUse i)) hpn hz hf) (by rfl) B.isinstance (by decide +kernel) (pa_cons (pv 0) (pa_cons (pe_glob (v := .ref (clsA mg "WrongName")) rfl (SK.own .WrongName) rfl) pa_nil))) (pa_cons (pe_callB (id := "isinstance") (call_isP (SK.ex (.inUse i)) hpn hz hf) (by rfl) B.isinstance (by decide +kernel) (pa_cons (pv 0) (pa_cons (pe_glob (v := .ref (clsA mg "NoAnswer")) rfl (SK.own .NoAnswer) rfl) pa_nil))) pa_nil)))))
  (pss_cons (ps_parH (i := 2) (j := 3) hot' sc_l_slip.nd rfl rfl (by decide) rfl rfl (pa_cons (pe_lst (pa_cons (pe_callB (id := "isinstance") (call_isP (SK.ex (.inUse i)) hpn hz hf) (by rfl) B.isinstance (by decide +kernel) (pa_cons (pv 0) (pa_cons (pe_bltn (v := .ty "ValueError") (by rfl) B.valueError (by decide +kernel) rfl) pa_nil))) (pa_cons (pe_callB (id := "isinstance") (call_isP (SK.ex (.inUse i)) hpn hz hf) (by rfl) B.isinstance (by decide +kernel) (pa_cons (pv 0) (pa_cons (pe_bltn (v := .ty "LookupError") (by rfl) B.lookupError (by decide +kernel) rfl) pa_nil))) (pa_cons (pe_callB (id := "isinstance") (call_isP (SK.ex (.inUse i)) hpn hz hf) (by rfl) B.isinstance (by decide +kernel) (pa_cons (pv 0) (pa_cons (pe_bltn (v := .ty "ArithmeticError") (by rfl) B.arithmeticError (by decide +kernel) rfl) pa_nil))) pa_nil)))) (pa_cons (pe_lst pa_nil) pa_nil)) (by rfl))
  (pss_cons (ps_if (pt_val (pe_callB (id := "isinstance") (call_isP (SK.ex (.inUse i)) hpn hz hf) (by rfl) B.isinstance (by decide +kernel) (pa_cons (pv 0) (pa_cons (pe_glob (v := .ref (clsA mg "Broken")) rfl (SK.own .Broken) rfl) pa_nil)))) (pss_one ps_never) pss_nil)
  (pss_cons (ps_if (pt_val (pe_callB (id := "isinstance") (call_isP (SK.ex (.inUse i)) hpn hz hf) (by rfl) B.isinstance (by decide +kernel) (pa_cons (pv 0) (pa_cons (pe_glob (v := .ref (clsA mg "InUse")) rfl (SK.own .InUse) rfl) pa_nil)))) (pss_one (ps_expr (pe_bm PySem.F.plainAttrs_list PySem.F.slot_list_append PySem.F.type_list_append mt_append (pv 3) (pa_cons (pe_lst (pa_cons pe_str (pa_cons (pe_callB (id := "repr") SkE.call_repr_int (by rfl) B.repr (by decide +kernel) (pa_cons (pe_xfP xf T.noN hpn hz hf (pv 0)) pa_nil)) pa_nil))) pa_nil)))) pss_nil)
  (pss_cons (ps_if (pt_val (pe_callB (id := "isinstance") (call_isP (SK.ex (.inUse i)) hpn hz hf) (by rfl) B.isinstance (by decide +kernel) (pa_cons (pv 0) (pa_cons (pe_glob (v := .ref (clsA mg "InvalidDeeds")) rfl (SK.own .InvalidDeeds) rfl) pa_nil)))) (pss_one ps_never) pss_nil)
  (pss_cons (ps_if (pt_val (pe_callB (id := "isinstance") (call_isP (SK.ex (.inUse i)) hpn hz hf) (by rfl) B.isinstance (by decide +kernel) (pa_cons (pv 0) (pa_cons (pe_glob (v := .ref (clsA mg "InvalidIndex")) rfl (SK.own .InvalidIndex) rfl) pa_nil)))) (pss_one ps_never) pss_nil)
  (pss_cons (ps_if (pt_val (pe_callB (id := "isinstance") (call_isP (SK.ex (.inUse i)) hpn hz hf) (by rfl) B.isinstance (by decide +kernel) (pa_cons (pv 0) (pa_cons (pe_glob (v := .ref (clsA mg "InvalidName")) rfl (SK.own .InvalidName) rfl) pa_nil)))) (pss_one ps_never) pss_nil)
  (pss_cons (ps_if (pt_val (pe_callB (id := "isinstance") (call_isP (SK.ex (.inUse i)) hpn hz hf) (by rfl) B.isinstance (by decide +kernel) (pa_cons (pv 0) (pa_cons (pe_glob (v := .ref (clsA mg "InvalidNumber")) rfl (SK.own .InvalidNumber) rfl) pa_nil)))) (pss_one ps_never) pss_nil)
  (pss_cons (ps_if (pt_val (pe_callB (id := "isinstance") (call_isP (SK.ex (.inUse i)) hpn hz hf) (by rfl) B.isinstance (by decide +kernel) (pa_cons (pv 0) (pa_cons (pe_glob (v := .ref (clsA mg "InvalidWish")) rfl (SK.own .InvalidWish) rfl) pa_nil)))) (pss_one ps_never) pss_nil)
  (pss_cons (ps_if (pt_val (pe_callB (id := "isinstance") (call_isP (SK.ex (.inUse i)) hpn hz hf) (by rfl) B.isinstance (by decide +kernel) (pa_cons (pv 0) (pa_cons (pe_glob (v := .ref (clsA mg "NothingToUndo")) rfl (SK.own .NothingToUndo) rfl) pa_nil)))) (pss_one ps_never) pss_nil)
  (pss_cons (ps_if (pt_val (pe_callB (id := "isinstance") (call_isP (SK.ex (.inUse i)) hpn hz hf) (by rfl) B.isinstance (by decide +kernel) (pa_cons (pv 0) (pa_cons (pe_glob (v := .ref (clsA mg "UnknownName")) rfl (SK.own .UnknownName) rfl) pa_nil)))) (pss_one ps_never) pss_nil)
  (pss_one (ps_ret (pe_ifExp (PW.pt (pw_and (pt_cmpR op_eq (pe_callB (id := "len") call_len_seq (by rfl) B.len (by decide +kernel) (pa_cons (pv 3) pa_nil)) pe_int (nomark _)) (pw_and (pt_cmpR (op_eqD hu64) (pv 1) (pv 2) (nomark _)) (pw_and1 (pt_cmpR op_eq (pe_bm PySem.F.plainAttrs_list PySem.F.slot_list_count PySem.F.type_list_count mt_countF (pv 1) (pa_cons pe_bl pa_nil)) pe_int (nomark _)))))) (pe_ix (r := rIxL K) ix_list (pv 3) pe_int (fun _ _ => rfl)) (pe_lst (pa_cons pe_str pa_nil)))))))))))))))), ?_⟩
    refine ⟨_, rfl, _, _, false, _, hd, rfl, fun _ h => h, SK.kit (.inUse i) .WrongValue, _, rfl, _, _, false, _, hd, rfl, fun _ h => h, SK.kit (.inUse i) .WrongName, _, rfl, _, _, true, _, hd, rfl, fun _ h => h, SK.kit (.inUse i) .NoAnswer, sz3, fun l1 hl1 => ?_⟩
    have S1 : Same H (upd H l1 (.lst [.bl false, .bl false, .bl true])) := same_new hl1
    have hd1 := S1 _ _ hd
    refine ⟨_, rfl, _, _, false, _, hd1, rfl, fun _ h => h, SK.kv (.inUse i), _, rfl, _, _, false, _, hd1, rfl, fun _ h => h, SK.kl (.inUse i), _, rfl, _, _, true, _, hd1, rfl, fun _ h => h, SK.ka (.inUse i), sz3, fun l2 hl2 => ⟨by decide, fun l3 hl3 => ⟨_, _, rfl, ?_⟩⟩⟩
    have S2 := S1.trans (same_new (o := .lst [.bl false, .bl false, .bl true]) hl2)
    have S3 := S2.trans (same_new (o := .lst []) hl3)
    have hd3 := S3 _ _ hd
    refine ⟨_, rfl, _, _, false, _, hd3, rfl, fun _ h => h, SK.kit (.inUse i) .Broken, _, rfl, iteF ⟨_, rfl, _, _, true, _, hd3, rfl, fun _ h => h, SK.kit (.inUse i) .InUse, _, rfl, iteT ?_⟩⟩
    refine ⟨_, rfl, .inl ⟨rfl, _, SqL.of upd_same⟩, ?_⟩
    refine ⟨_, rfl, rfl, _, _, hd3, by rfl, ?_⟩
    refine ⟨_, rfl, log_small ho, ?_⟩
    refine ⟨sz2, fun l4 hl4 => ⟨l3, [], .ref l4, rfl, rfl, same_new hl4 _ _ upd_same, by decide, ?_⟩⟩
    have hp := slip_heap (x := [.str "InUse", .str (toString (i : Int))]) hl3 hl4
    generalize hH5 : upd (upd (upd (upd (upd H l1 (.lst [.bl false, .bl false, .bl true])) l2 (.lst [.bl false, .bl false, .bl true])) l3 (.lst [])) l4 (.lst [.str "InUse", .str (toString (i : Int))])) l3 (.lst ([] ++ [V.ref l4])) = H5 at hp
    try rw [show upd (upd (upd (upd (upd H l1 (.lst [.bl false, .bl false, .bl true])) l2 (.lst [.bl false, .bl false, .bl true])) l3 (.lst [])) l4 (.lst [.str "InUse", .str (toString (i : Int))])) l3 (.lst ([] ++ [V.ref l4])) = H5 from hH5]
    obtain ⟨S5, e3, e4⟩ := hp
    have hd5 := S5 _ _ (S2 _ _ hd)
    have e1 := S5 _ _ (same_new hl2 _ _ (upd_same (H := H) (a := l1) (o := .lst [.bl false, .bl false, .bl true])))
    have e2 := S5 _ _ (upd_same (H := upd H l1 (.lst [.bl false, .bl false, .bl true])) (a := l2) (o := .lst [.bl false, .bl false, .bl true]))
    refine ⟨_, rfl, _, _, false, _, hd5, rfl, fun _ h => h, SK.kit (.inUse i) .InvalidDeeds, _, rfl, iteF ⟨_, rfl, _, _, false, _, hd5, rfl, fun _ h => h, SK.kit (.inUse i) .InvalidIndex, _, rfl, iteF ⟨_, rfl, _, _, false, _, hd5, rfl, fun _ h => h, SK.kit (.inUse i) .InvalidName, _, rfl, iteF ⟨_, rfl, _, _, false, _, hd5, rfl, fun _ h => h, SK.kit (.inUse i) .InvalidNumber, _, rfl, iteF ⟨_, rfl, _, _, false, _, hd5, rfl, fun _ h => h, SK.kit (.inUse i) .InvalidWish, _, rfl, iteF ⟨_, rfl, _, _, false, _, hd5, rfl, fun _ h => h, SK.kit (.inUse i) .NothingToUndo, _, rfl, iteF ⟨_, rfl, _, _, false, _, hd5, rfl, fun _ h => h, SK.kit (.inUse i) .UnknownName, _, rfl, iteF ?_⟩⟩⟩⟩⟩⟩⟩
    refine ⟨_, rfl, l3, _, rfl, .inl (SqL.of e3), rfl, _, rfl, iteT ?_⟩
    refine ⟨_, rfl, _, rfl, .list [.bool false, .bool false, .bool true], .list [.bool false, .bool false, .bool true], .lst (SqL.of e1) (.cons (.bl _) (.cons (.bl _) (.cons (.bl _) .nil))), .lst (SqL.of e2) (.cons (.bl _) (.cons (.bl _) (.cons (.bl _) .nil))), by decide +kernel, by decide +kernel, true, by rw [show PyData.eqv (.list [.bool false, .bool false, .bool true]) (.list [.bool false, .bool false, .bool true]) = true by decide +kernel], iteT ?_⟩
    refine ⟨_, rfl, .inl ⟨rfl, _, SqL.of e1⟩, l1, _, _, rfl, rfl, e1, rfl, rfl, rfl, true, by rw [show decide (V.int ((List.countP (fun y => eqV y (V.bl true)) [V.bl false, V.bl false, V.bl true] : Nat) : Int) = V.int 1) = true by decide +kernel], iteT ?_⟩
    exact ⟨_, rfl, l3, _, 0, _, rfl, rfl, SqL.of e3, atI_nat (j := 0) rfl, k l4 H5 (S2.trans S5) e4⟩
  | broken i =>
    refine ⟨_, (pss_cons (ps_set (i := 1) sc_l_slip.nd rfl (.inl rfl) (pe_lst (pa_cons (pe_callB (id := "isinstance") (call_isP (SK.ex (.broken i)) hpn hz hf) (by rfl) B.isinstance (by decide +kernel) (pa_cons (pv 0) (pa_cons (pe_glob (v := .ref (clsA mg "WrongValue")) rfl (SK.own .WrongValue) rfl) pa_nil))) (pa_cons (pe_callB (id := "isinstance") (call_isP (SK.ex (.broken i)) hpn hz hf) (by rfl) B.isinstance (by decide +kernel) (pa_cons (pv 0) (pa_cons (pe_glob (v := .ref (clsA mg "WrongName")) rfl (SK.own .WrongName) rfl) pa_nil))) (pa_cons (pe_callB (id := "isinstance") (call_isP (SK.ex (.broken i)) hpn hz hf) (by rfl) B.isinstance (by decide +kernel) (pa_cons (pv 0) (pa_cons (pe_glob (v := .ref (clsA mg "NoAnswer")) rfl (SK.own .NoAnswer) rfl) pa_nil))) pa_nil)))))
  (pss_cons (ps_parH (i := 2) (j := 3) hot' sc_l_slip.nd rfl rfl (by decide) rfl rfl (pa_cons (pe_lst (pa_cons (pe_callB (id := "isinstance") (call_isP (SK.ex (.broken i)) hpn hz hf) (by rfl) B.isinstance (by decide +kernel) (pa_cons (pv 0) (pa_cons (pe_bltn (v := .ty "ValueError") (by rfl) B.valueError (by decide +kernel) rfl) pa_nil))) (pa_cons (pe_callB (id := "isinstance") (call_isP (SK.ex (.broken i)) hpn hz hf) (by rfl) B.isinstance (by decide +kernel) (pa_cons (pv 0) (pa_cons (pe_bltn (v := .ty "LookupError") (by rfl) B.lookupError (by decide +kernel) rfl) pa_nil))) (pa_cons (pe_callB (id := "isinstance") (call_isP (SK.ex (.broken i)) hpn hz hf) (by rfl) B.isinstance (by decide +kernel) (pa_cons (pv 0) (pa_cons (pe_bltn (v := .ty "ArithmeticError") (by rfl) B.arithmeticError (by decide +kernel) rfl) pa_nil))) pa_nil)))) (pa_cons (pe_lst pa_nil) pa_nil)) (by rfl))
  (pss_cons (ps_if (pt_val (pe_callB (id := "isinstance") (call_isP (SK.ex (.broken i)) hpn hz hf) (by rfl) B.isinstance (by decide +kernel) (pa_cons (pv 0) (pa_cons (pe_glob (v := .ref (clsA mg "Broken")) rfl (SK.own .Broken) rfl) pa_nil)))) (pss_one (ps_expr (pe_bm PySem.F.plainAttrs_list PySem.F.slot_list_append PySem.F.type_list_append mt_append (pv 3) (pa_cons (pe_lst (pa_cons pe_str (pa_cons (pe_callB (id := "repr") SkE.call_repr_int (by rfl) B.repr (by decide +kernel) (pa_cons (pe_xfP xf T.noN hpn hz hf (pv 0)) pa_nil)) pa_nil))) pa_nil)))) pss_nil)
  (pss_cons (ps_if (pt_val (pe_callB (id := "isinstance") (call_isP (SK.ex (.broken i)) hpn hz hf) (by rfl) B.isinstance (by decide +kernel) (pa_cons (pv 0) (pa_cons (pe_glob (v := .ref (clsA mg "InUse")) rfl (SK.own .InUse) rfl) pa_nil)))) (pss_one ps_never) pss_nil)
  (pss_cons (ps_if (pt_val (pe_callB (id := "isinstance") (call_isP (SK.ex (.broken i)) hpn hz hf) (by rfl) B.isinstance (by decide +kernel) (pa_cons (pv 0) (pa_cons (pe_glob (v := .ref (clsA mg "InvalidDeeds")) rfl (SK.own .InvalidDeeds) rfl) pa_nil)))) (pss_one ps_never) pss_nil)
  (pss_cons (ps_if (pt_val (pe_callB (id := "isinstance") (call_isP (SK.ex (.broken i)) hpn hz hf) (by rfl) B.isinstance (by decide +kernel) (pa_cons (pv 0) (pa_cons (pe_glob (v := .ref (clsA mg "InvalidIndex")) rfl (SK.own .InvalidIndex) rfl) pa_nil)))) (pss_one ps_never) pss_nil)
  (pss_cons (ps_if (pt_val (pe_callB (id := "isinstance") (call_isP (SK.ex (.broken i)) hpn hz hf) (by rfl) B.isinstance (by decide +kernel) (pa_cons (pv 0) (pa_cons (pe_glob (v := .ref (clsA mg "InvalidName")) rfl (SK.own .InvalidName) rfl) pa_nil)))) (pss_one ps_never) pss_nil)
  (pss_cons (ps_if (pt_val (pe_callB (id := "isinstance") (call_isP (SK.ex (.broken i)) hpn hz hf) (by rfl) B.isinstance (by decide +kernel) (pa_cons (pv 0) (pa_cons (pe_glob (v := .ref (clsA mg "InvalidNumber")) rfl (SK.own .InvalidNumber) rfl) pa_nil)))) (pss_one ps_never) pss_nil)
  (pss_cons (ps_if (pt_val (pe_callB (id := "isinstance") (call_isP (SK.ex (.broken i)) hpn hz hf) (by rfl) B.isinstance (by decide +kernel) (pa_cons (pv 0) (pa_cons (pe_glob (v := .ref (clsA mg "InvalidWish")) rfl (SK.own .InvalidWish) rfl) pa_nil)))) (pss_one ps_never) pss_nil)
  (pss_cons (ps_if (pt_val (pe_callB (id := "isinstance") (call_isP (SK.ex (.broken i)) hpn hz hf) (by rfl) B.isinstance (by decide +kernel) (pa_cons (pv 0) (pa_cons (pe_glob (v := .ref (clsA mg "NothingToUndo")) rfl (SK.own .NothingToUndo) rfl) pa_nil)))) (pss_one ps_never) pss_nil)
  (pss_cons (ps_if (pt_val (pe_callB (id := "isinstance") (call_isP (SK.ex (.broken i)) hpn hz hf) (by rfl) B.isinstance (by decide +kernel) (pa_cons (pv 0) (pa_cons (pe_glob (v := .ref (clsA mg "UnknownName")) rfl (SK.own .UnknownName) rfl) pa_nil)))) (pss_one ps_never) pss_nil)
  (pss_one (ps_ret (pe_ifExp (PW.pt (pw_and (pt_cmpR op_eq (pe_callB (id := "len") call_len_seq (by rfl) B.len (by decide +kernel) (pa_cons (pv 3) pa_nil)) pe_int (nomark _)) (pw_and (pt_cmpR (op_eqD hu64) (pv 1) (pv 2) (nomark _)) (pw_and1 (pt_cmpR op_eq (pe_bm PySem.F.plainAttrs_list PySem.F.slot_list_count PySem.F.type_list_count mt_countF (pv 1) (pa_cons pe_bl pa_nil)) pe_int (nomark _)))))) (pe_ix (r := rIxL K) ix_list (pv 3) pe_int (fun _ _ => rfl)) (pe_lst (pa_cons pe_str pa_nil)))))))))))))))), ?_⟩
    refine ⟨_, rfl, _, _, false, _, hd, rfl, fun _ h => h, SK.kit (.broken i) .WrongValue, _, rfl, _, _, false, _, hd, rfl, fun _ h => h, SK.kit (.broken i) .WrongName, _, rfl, _, _, true, _, hd, rfl, fun _ h => h, SK.kit (.broken i) .NoAnswer, sz3, fun l1 hl1 => ?_⟩
    have S1 : Same H (upd H l1 (.lst [.bl false, .bl false, .bl true])) := same_new hl1
    have hd1 := S1 _ _ hd
    refine ⟨_, rfl, _, _, false, _, hd1, rfl, fun _ h => h, SK.kv (.broken i), _, rfl, _, _, false, _, hd1, rfl, fun _ h => h, SK.kl (.broken i), _, rfl, _, _, true, _, hd1, rfl, fun _ h => h, SK.ka (.broken i), sz3, fun l2 hl2 => ⟨by decide, fun l3 hl3 => ⟨_, _, rfl, ?_⟩⟩⟩
    have S2 := S1.trans (same_new (o := .lst [.bl false, .bl false, .bl true]) hl2)
    have S3 := S2.trans (same_new (o := .lst []) hl3)
    have hd3 := S3 _ _ hd
    refine ⟨_, rfl, _, _, true, _, hd3, rfl, fun _ h => h, SK.kit (.broken i) .Broken, _, rfl, iteT ?_⟩
    refine ⟨_, rfl, .inl ⟨rfl, _, SqL.of upd_same⟩, ?_⟩
    refine ⟨_, rfl, rfl, _, _, hd3, by rfl, ?_⟩
    refine ⟨_, rfl, log_small ho, ?_⟩
    refine ⟨sz2, fun l4 hl4 => ⟨l3, [], .ref l4, rfl, rfl, same_new hl4 _ _ upd_same, by decide, ?_⟩⟩
    have hp := slip_heap (x := [.str "Broken", .str (toString (i : Int))]) hl3 hl4
    generalize hH5 : upd (upd (upd (upd (upd H l1 (.lst [.bl false, .bl false, .bl true])) l2 (.lst [.bl false, .bl false, .bl true])) l3 (.lst [])) l4 (.lst [.str "Broken", .str (toString (i : Int))])) l3 (.lst ([] ++ [V.ref l4])) = H5 at hp
    try rw [show upd (upd (upd (upd (upd H l1 (.lst [.bl false, .bl false, .bl true])) l2 (.lst [.bl false, .bl false, .bl true])) l3 (.lst [])) l4 (.lst [.str "Broken", .str (toString (i : Int))])) l3 (.lst ([] ++ [V.ref l4])) = H5 from hH5]
    obtain ⟨S5, e3, e4⟩ := hp
    have hd5 := S5 _ _ (S2 _ _ hd)
    have e1 := S5 _ _ (same_new hl2 _ _ (upd_same (H := H) (a := l1) (o := .lst [.bl false, .bl false, .bl true])))
    have e2 := S5 _ _ (upd_same (H := upd H l1 (.lst [.bl false, .bl false, .bl true])) (a := l2) (o := .lst [.bl false, .bl false, .bl true]))
    refine ⟨_, rfl, _, _, false, _, hd5, rfl, fun _ h => h, SK.kit (.broken i) .InUse, _, rfl, iteF ⟨_, rfl, _, _, false, _, hd5, rfl, fun _ h => h, SK.kit (.broken i) .InvalidDeeds, _, rfl, iteF ⟨_, rfl, _, _, false, _, hd5, rfl, fun _ h => h, SK.kit (.broken i) .InvalidIndex, _, rfl, iteF ⟨_, rfl, _, _, false, _, hd5, rfl, fun _ h => h, SK.kit (.broken i) .InvalidName, _, rfl, iteF ⟨_, rfl, _, _, false, _, hd5, rfl, fun _ h => h, SK.kit (.broken i) .InvalidNumber, _, rfl, iteF ⟨_, rfl, _, _, false, _, hd5, rfl, fun _ h => h, SK.kit (.broken i) .InvalidWish, _, rfl, iteF ⟨_, rfl, _, _, false, _, hd5, rfl, fun _ h => h, SK.kit (.broken i) .NothingToUndo, _, rfl, iteF ⟨_, rfl, _, _, false, _, hd5, rfl, fun _ h => h, SK.kit (.broken i) .UnknownName, _, rfl, iteF ?_⟩⟩⟩⟩⟩⟩⟩⟩
    refine ⟨_, rfl, l3, _, rfl, .inl (SqL.of e3), rfl, _, rfl, iteT ?_⟩
    refine ⟨_, rfl, _, rfl, .list [.bool false, .bool false, .bool true], .list [.bool false, .bool false, .bool true], .lst (SqL.of e1) (.cons (.bl _) (.cons (.bl _) (.cons (.bl _) .nil))), .lst (SqL.of e2) (.cons (.bl _) (.cons (.bl _) (.cons (.bl _) .nil))), by decide +kernel, by decide +kernel, true, by rw [show PyData.eqv (.list [.bool false, .bool false, .bool true]) (.list [.bool false, .bool false, .bool true]) = true by decide +kernel], iteT ?_⟩
    refine ⟨_, rfl, .inl ⟨rfl, _, SqL.of e1⟩, l1, _, _, rfl, rfl, e1, rfl, rfl, rfl, true, by rw [show decide (V.int ((List.countP (fun y => eqV y (V.bl true)) [V.bl false, V.bl false, V.bl true] : Nat) : Int) = V.int 1) = true by decide +kernel], iteT ?_⟩
    exact ⟨_, rfl, l3, _, 0, _, rfl, rfl, SqL.of e3, atI_nat (j := 0) rfl, k l4 H5 (S2.trans S5) e4⟩
  | index i =>
    refine ⟨_, (pss_cons (ps_set (i := 1) sc_l_slip.nd rfl (.inl rfl) (pe_lst (pa_cons (pe_callB (id := "isinstance") (call_isP (SK.ex (.index i)) hpn hz hf) (by rfl) B.isinstance (by decide +kernel) (pa_cons (pv 0) (pa_cons (pe_glob (v := .ref (clsA mg "WrongValue")) rfl (SK.own .WrongValue) rfl) pa_nil))) (pa_cons (pe_callB (id := "isinstance") (call_isP (SK.ex (.index i)) hpn hz hf) (by rfl) B.isinstance (by decide +kernel) (pa_cons (pv 0) (pa_cons (pe_glob (v := .ref (clsA mg "WrongName")) rfl (SK.own .WrongName) rfl) pa_nil))) (pa_cons (pe_callB (id := "isinstance") (call_isP (SK.ex (.index i)) hpn hz hf) (by rfl) B.isinstance (by decide +kernel) (pa_cons (pv 0) (pa_cons (pe_glob (v := .ref (clsA mg "NoAnswer")) rfl (SK.own .NoAnswer) rfl) pa_nil))) pa_nil)))))
  (pss_cons (ps_parH (i := 2) (j := 3) hot' sc_l_slip.nd rfl rfl (by decide) rfl rfl (pa_cons (pe_lst (pa_cons (pe_callB (id := "isinstance") (call_isP (SK.ex (.index i)) hpn hz hf) (by rfl) B.isinstance (by decide +kernel) (pa_cons (pv 0) (pa_cons (pe_bltn (v := .ty "ValueError") (by rfl) B.valueError (by decide +kernel) rfl) pa_nil))) (pa_cons (pe_callB (id := "isinstance") (call_isP (SK.ex (.index i)) hpn hz hf) (by rfl) B.isinstance (by decide +kernel) (pa_cons (pv 0) (pa_cons (pe_bltn (v := .ty "LookupError") (by rfl) B.lookupError (by decide +kernel) rfl) pa_nil))) (pa_cons (pe_callB (id := "isinstance") (call_isP (SK.ex (.index i)) hpn hz hf) (by rfl) B.isinstance (by decide +kernel) (pa_cons (pv 0) (pa_cons (pe_bltn (v := .ty "ArithmeticError") (by rfl) B.arithmeticError (by decide +kernel) rfl) pa_nil))) pa_nil)))) (pa_cons (pe_lst pa_nil) pa_nil)) (by rfl))
  (pss_cons (ps_if (pt_val (pe_callB (id := "isinstance") (call_isP (SK.ex (.index i)) hpn hz hf) (by rfl) B.isinstance (by decide +kernel) (pa_cons (pv 0) (pa_cons (pe_glob (v := .ref (clsA mg "Broken")) rfl (SK.own .Broken) rfl) pa_nil)))) (pss_one ps_never) pss_nil)
  (pss_cons (ps_if (pt_val (pe_callB (id := "isinstance") (call_isP (SK.ex (.index i)) hpn hz hf) (by rfl) B.isinstance (by decide +kernel) (pa_cons (pv 0) (pa_cons (pe_glob (v := .ref (clsA mg "InUse")) rfl (SK.own .InUse) rfl) pa_nil)))) (pss_one ps_never) pss_nil)
  (pss_cons (ps_if (pt_val (pe_callB (id := "isinstance") (call_isP (SK.ex (.index i)) hpn hz hf) (by rfl) B.isinstance (by decide +kernel) (pa_cons (pv 0) (pa_cons (pe_glob (v := .ref (clsA mg "InvalidDeeds")) rfl (SK.own .InvalidDeeds) rfl) pa_nil)))) (pss_one ps_never) pss_nil)
  (pss_cons (ps_if (pt_val (pe_callB (id := "isinstance") (call_isP (SK.ex (.index i)) hpn hz hf) (by rfl) B.isinstance (by decide +kernel) (pa_cons (pv 0) (pa_cons (pe_glob (v := .ref (clsA mg "InvalidIndex")) rfl (SK.own .InvalidIndex) rfl) pa_nil)))) (pss_one (ps_expr (pe_bm PySem.F.plainAttrs_list PySem.F.slot_list_append PySem.F.type_list_append mt_append (pv 3) (pa_cons (pe_lst (pa_cons pe_str (pa_cons (pe_callB (id := "repr") SkE.call_repr_int (by rfl) B.repr (by decide +kernel) (pa_cons (pe_xfP xf T.noN hpn hz hf (pv 0)) pa_nil)) pa_nil))) pa_nil)))) pss_nil)
  (pss_cons (ps_if (pt_val (pe_callB (id := "isinstance") (call_isP (SK.ex (.index i)) hpn hz hf) (by rfl) B.isinstance (by decide +kernel) (pa_cons (pv 0) (pa_cons (pe_glob (v := .ref (clsA mg "InvalidName")) rfl (SK.own .InvalidName) rfl) pa_nil)))) (pss_one ps_never) pss_nil)
  (pss_cons (ps_if (pt_val (pe_callB (id := "isinstance") (call_isP (SK.ex (.index i)) hpn hz hf) (by rfl) B.isinstance (by decide +kernel) (pa_cons (pv 0) (pa_cons (pe_glob (v := .ref (clsA mg "InvalidNumber")) rfl (SK.own .InvalidNumber) rfl) pa_nil)))) (pss_one ps_never) pss_nil)
  (pss_cons (ps_if (pt_val (pe_callB (id := "isinstance") (call_isP (SK.ex (.index i)) hpn hz hf) (by rfl) B.isinstance (by decide +kernel) (pa_cons (pv 0) (pa_cons (pe_glob (v := .ref (clsA mg "InvalidWish")) rfl (SK.own .InvalidWish) rfl) pa_nil)))) (pss_one ps_never) pss_nil)
  (pss_cons (ps_if (pt_val (pe_callB (id := "isinstance") (call_isP (SK.ex (.index i)) hpn hz hf) (by rfl) B.isinstance (by decide +kernel) (pa_cons (pv 0) (pa_cons (pe_glob (v := .ref (clsA mg "NothingToUndo")) rfl (SK.own .NothingToUndo) rfl) pa_nil)))) (pss_one ps_never) pss_nil)
  (pss_cons (ps_if (pt_val (pe_callB (id := "isinstance") (call_isP (SK.ex (.index i)) hpn hz hf) (by rfl) B.isinstance (by decide +kernel) (pa_cons (pv 0) (pa_cons (pe_glob (v := .ref (clsA mg "UnknownName")) rfl (SK.own .UnknownName) rfl) pa_nil)))) (pss_one ps_never) pss_nil)
  (pss_one (ps_ret (pe_ifExp (PW.pt (pw_and (pt_cmpR op_eq (pe_callB (id := "len") call_len_seq (by rfl) B.len (by decide +kernel) (pa_cons (pv 3) pa_nil)) pe_int (nomark _)) (pw_and (pt_cmpR (op_eqD hu64) (pv 1) (pv 2) (nomark _)) (pw_and1 (pt_cmpR op_eq (pe_bm PySem.F.plainAttrs_list PySem.F.slot_list_count PySem.F.type_list_count mt_countF (pv 1) (pa_cons pe_bl pa_nil)) pe_int (nomark _)))))) (pe_ix (r := rIxL K) ix_list (pv 3) pe_int (fun _ _ => rfl)) (pe_lst (pa_cons pe_str pa_nil)))))))))))))))), ?_⟩
    refine ⟨_, rfl, _, _, true, _, hd, rfl, fun _ h => h, SK.kit (.index i) .WrongValue, _, rfl, _, _, false, _, hd, rfl, fun _ h => h, SK.kit (.index i) .WrongName, _, rfl, _, _, false, _, hd, rfl, fun _ h => h, SK.kit (.index i) .NoAnswer, sz3, fun l1 hl1 => ?_⟩
    have S1 : Same H (upd H l1 (.lst [.bl true, .bl false, .bl false])) := same_new hl1
    have hd1 := S1 _ _ hd
    refine ⟨_, rfl, _, _, true, _, hd1, rfl, fun _ h => h, SK.kv (.index i), _, rfl, _, _, false, _, hd1, rfl, fun _ h => h, SK.kl (.index i), _, rfl, _, _, false, _, hd1, rfl, fun _ h => h, SK.ka (.index i), sz3, fun l2 hl2 => ⟨by decide, fun l3 hl3 => ⟨_, _, rfl, ?_⟩⟩⟩
    have S2 := S1.trans (same_new (o := .lst [.bl true, .bl false, .bl false]) hl2)
    have S3 := S2.trans (same_new (o := .lst []) hl3)
    have hd3 := S3 _ _ hd
    refine ⟨_, rfl, _, _, false, _, hd3, rfl, fun _ h => h, SK.kit (.index i) .Broken, _, rfl, iteF ⟨_, rfl, _, _, false, _, hd3, rfl, fun _ h => h, SK.kit (.index i) .InUse, _, rfl, iteF ⟨_, rfl, _, _, false, _, hd3, rfl, fun _ h => h, SK.kit (.index i) .InvalidDeeds, _, rfl, iteF ⟨_, rfl, _, _, true, _, hd3, rfl, fun _ h => h, SK.kit (.index i) .InvalidIndex, _, rfl, iteT ?_⟩⟩⟩⟩
    refine ⟨_, rfl, .inl ⟨rfl, _, SqL.of upd_same⟩, ?_⟩
    refine ⟨_, rfl, rfl, _, _, hd3, by rfl, ?_⟩
    refine ⟨_, rfl, log_small ho, ?_⟩
    refine ⟨sz2, fun l4 hl4 => ⟨l3, [], .ref l4, rfl, rfl, same_new hl4 _ _ upd_same, by decide, ?_⟩⟩
    have hp := slip_heap (x := [.str "InvalidIndex", .str (toString (i : Int))]) hl3 hl4
    generalize hH5 : upd (upd (upd (upd (upd H l1 (.lst [.bl true, .bl false, .bl false])) l2 (.lst [.bl true, .bl false, .bl false])) l3 (.lst [])) l4 (.lst [.str "InvalidIndex", .str (toString (i : Int))])) l3 (.lst ([] ++ [V.ref l4])) = H5 at hp
    try rw [show upd (upd (upd (upd (upd H l1 (.lst [.bl true, .bl false, .bl false])) l2 (.lst [.bl true, .bl false, .bl false])) l3 (.lst [])) l4 (.lst [.str "InvalidIndex", .str (toString (i : Int))])) l3 (.lst ([] ++ [V.ref l4])) = H5 from hH5]
    obtain ⟨S5, e3, e4⟩ := hp
    have hd5 := S5 _ _ (S2 _ _ hd)
    have e1 := S5 _ _ (same_new hl2 _ _ (upd_same (H := H) (a := l1) (o := .lst [.bl true, .bl false, .bl false])))
    have e2 := S5 _ _ (upd_same (H := upd H l1 (.lst [.bl true, .bl false, .bl false])) (a := l2) (o := .lst [.bl true, .bl false, .bl false]))
    refine ⟨_, rfl, _, _, false, _, hd5, rfl, fun _ h => h, SK.kit (.index i) .InvalidName, _, rfl, iteF ⟨_, rfl, _, _, false, _, hd5, rfl, fun _ h => h, SK.kit (.index i) .InvalidNumber, _, rfl, iteF ⟨_, rfl, _, _, false, _, hd5, rfl, fun _ h => h, SK.kit (.index i) .InvalidWish, _, rfl, iteF ⟨_, rfl, _, _, false, _, hd5, rfl, fun _ h => h, SK.kit (.index i) .NothingToUndo, _, rfl, iteF ⟨_, rfl, _, _, false, _, hd5, rfl, fun _ h => h, SK.kit (.index i) .UnknownName, _, rfl, iteF ?_⟩⟩⟩⟩⟩
    refine ⟨_, rfl, l3, _, rfl, .inl (SqL.of e3), rfl, _, rfl, iteT ?_⟩
    refine ⟨_, rfl, _, rfl, .list [.bool true, .bool false, .bool false], .list [.bool true, .bool false, .bool false], .lst (SqL.of e1) (.cons (.bl _) (.cons (.bl _) (.cons (.bl _) .nil))), .lst (SqL.of e2) (.cons (.bl _) (.cons (.bl _) (.cons (.bl _) .nil))), by decide +kernel, by decide +kernel, true, by rw [show PyData.eqv (.list [.bool true, .bool false, .bool false]) (.list [.bool true, .bool false, .bool false]) = true by decide +kernel], iteT ?_⟩
    refine ⟨_, rfl, .inl ⟨rfl, _, SqL.of e1⟩, l1, _, _, rfl, rfl, e1, rfl, rfl, rfl, true, by rw [show decide (V.int ((List.countP (fun y => eqV y (V.bl true)) [V.bl true, V.bl false, V.bl false] : Nat) : Int) = V.int 1) = true by decide +kernel], iteT ?_⟩
    exact ⟨_, rfl, l3, _, 0, _, rfl, rfl, SqL.of e3, atI_nat (j := 0) rfl, k l4 H5 (S2.trans S5) e4⟩
  | deeds i =>
    refine ⟨_, (pss_cons (ps_set (i := 1) sc_l_slip.nd rfl (.inl rfl) (pe_lst (pa_cons (pe_callB (id := "isinstance") (call_isP (SK.ex (.deeds i)) hpn hz hf) (by rfl) B.isinstance (by decide +kernel) (pa_cons (pv 0) (pa_cons (pe_glob (v := .ref (clsA mg "WrongValue")) rfl (SK.own .WrongValue) rfl) pa_nil))) (pa_cons (pe_callB (id := "isinstance") (call_isP (SK.ex (.deeds i)) hpn hz hf) (by rfl) B.isinstance (by decide +kernel) (pa_cons (pv 0) (pa_cons (pe_glob (v := .ref (clsA mg "WrongName")) rfl (SK.own .WrongName) rfl) pa_nil))) (pa_cons (pe_callB (id := "isinstance") (call_isP (SK.ex (.deeds i)) hpn hz hf) (by rfl) B.isinstance (by decide +kernel) (pa_cons (pv 0) (pa_cons (pe_glob (v := .ref (clsA mg "NoAnswer")) rfl (SK.own .NoAnswer) rfl) pa_nil))) pa_nil)))))
  (pss_cons (ps_parH (i := 2) (j := 3) hot' sc_l_slip.nd rfl rfl (by decide) rfl rfl (pa_cons (pe_lst (pa_cons (pe_callB (id := "isinstance") (call_isP (SK.ex (.deeds i)) hpn hz hf) (by rfl) B.isinstance (by decide +kernel) (pa_cons (pv 0) (pa_cons (pe_bltn (v := .ty "ValueError") (by rfl) B.valueError (by decide +kernel) rfl) pa_nil))) (pa_cons (pe_callB (id := "isinstance") (call_isP (SK.ex (.deeds i)) hpn hz hf) (by rfl) B.isinstance (by decide +kernel) (pa_cons (pv 0) (pa_cons (pe_bltn (v := .ty "LookupError") (by rfl) B.lookupError (by decide +kernel) rfl) pa_nil))) (pa_cons (pe_callB (id := "isinstance") (call_isP (SK.ex (.deeds i)) hpn hz hf) (by rfl) B.isinstance (by decide +kernel) (pa_cons (pv 0) (pa_cons (pe_bltn (v := .ty "ArithmeticError") (by rfl) B.arithmeticError (by decide +kernel) rfl) pa_nil))) pa_nil)))) (pa_cons (pe_lst pa_nil) pa_nil)) (by rfl))
  (pss_cons (ps_if (pt_val (pe_callB (id := "isinstance") (call_isP (SK.ex (.deeds i)) hpn hz hf) (by rfl) B.isinstance (by decide +kernel) (pa_cons (pv 0) (pa_cons (pe_glob (v := .ref (clsA mg "Broken")) rfl (SK.own .Broken) rfl) pa_nil)))) (pss_one ps_never) pss_nil)
  (pss_cons (ps_if (pt_val (pe_callB (id := "isinstance") (call_isP (SK.ex (.deeds i)) hpn hz hf) (by rfl) B.isinstance (by decide +kernel) (pa_cons (pv 0) (pa_cons (pe_glob (v := .ref (clsA mg "InUse")) rfl (SK.own .InUse) rfl) pa_nil)))) (pss_one ps_never) pss_nil)
  (pss_cons (ps_if (pt_val (pe_callB (id := "isinstance") (call_isP (SK.ex (.deeds i)) hpn hz hf) (by rfl) B.isinstance (by decide +kernel) (pa_cons (pv 0) (pa_cons (pe_glob (v := .ref (clsA mg "InvalidDeeds")) rfl (SK.own .InvalidDeeds) rfl) pa_nil)))) (pss_one (ps_expr (pe_bm PySem.F.plainAttrs_list PySem.F.slot_list_append PySem.F.type_list_append mt_append (pv 3) (pa_cons (pe_lst (pa_cons pe_str (pa_cons (pe_callB (id := "repr") SkE.call_repr_int (by rfl) B.repr (by decide +kernel) (pa_cons (pe_xfP xf T.noN hpn hz hf (pv 0)) pa_nil)) pa_nil))) pa_nil)))) pss_nil)
  (pss_cons (ps_if (pt_val (pe_callB (id := "isinstance") (call_isP (SK.ex (.deeds i)) hpn hz hf) (by rfl) B.isinstance (by decide +kernel) (pa_cons (pv 0) (pa_cons (pe_glob (v := .ref (clsA mg "InvalidIndex")) rfl (SK.own .InvalidIndex) rfl) pa_nil)))) (pss_one ps_never) pss_nil)
  (pss_cons (ps_if (pt_val (pe_callB (id := "isinstance") (call_isP (SK.ex (.deeds i)) hpn hz hf) (by rfl) B.isinstance (by decide +kernel) (pa_cons (pv 0) (pa_cons (pe_glob (v := .ref (clsA mg "InvalidName")) rfl (SK.own .InvalidName) rfl) pa_nil)))) (pss_one ps_never) pss_nil)
  (pss_cons (ps_if (pt_val (pe_callB (id := "isinstance") (call_isP (SK.ex (.deeds i)) hpn hz hf) (by rfl) B.isinstance (by decide +kernel) (pa_cons (pv 0) (pa_cons (pe_glob (v := .ref (clsA mg "InvalidNumber")) rfl (SK.own .InvalidNumber) rfl) pa_nil)))) (pss_one ps_never) pss_nil)
  (pss_cons (ps_if (pt_val (pe_callB (id := "isinstance") (call_isP (SK.ex (.deeds i)) hpn hz hf) (by rfl) B.isinstance (by decide +kernel) (pa_cons (pv 0) (pa_cons (pe_glob (v := .ref (clsA mg "InvalidWish")) rfl (SK.own .InvalidWish) rfl) pa_nil)))) (pss_one ps_never) pss_nil)
  (pss_cons (ps_if (pt_val (pe_callB (id := "isinstance") (call_isP (SK.ex (.deeds i)) hpn hz hf) (by rfl) B.isinstance (by decide +kernel) (pa_cons (pv 0) (pa_cons (pe_glob (v := .ref (clsA mg "NothingToUndo")) rfl (SK.own .NothingToUndo) rfl) pa_nil)))) (pss_one ps_never) pss_nil)
  (pss_cons (ps_if (pt_val (pe_callB (id := "isinstance") (call_isP (SK.ex (.deeds i)) hpn hz hf) (by rfl) B.isinstance (by decide +kernel) (pa_cons (pv 0) (pa_cons (pe_glob (v := .ref (clsA mg "UnknownName")) rfl (SK.own .UnknownName) rfl) pa_nil)))) (pss_one ps_never) pss_nil)
  (pss_one (ps_ret (pe_ifExp (PW.pt (pw_and (pt_cmpR op_eq (pe_callB (id := "len") call_len_seq (by rfl) B.len (by decide +kernel) (pa_cons (pv 3) pa_nil)) pe_int (nomark _)) (pw_and (pt_cmpR (op_eqD hu64) (pv 1) (pv 2) (nomark _)) (pw_and1 (pt_cmpR op_eq (pe_bm PySem.F.plainAttrs_list PySem.F.slot_list_count PySem.F.type_list_count mt_countF (pv 1) (pa_cons pe_bl pa_nil)) pe_int (nomark _)))))) (pe_ix (r := rIxL K) ix_list (pv 3) pe_int (fun _ _ => rfl)) (pe_lst (pa_cons pe_str pa_nil)))))))))))))))), ?_⟩
    refine ⟨_, rfl, _, _, true, _, hd, rfl, fun _ h => h, SK.kit (.deeds i) .WrongValue, _, rfl, _, _, false, _, hd, rfl, fun _ h => h, SK.kit (.deeds i) .WrongName, _, rfl, _, _, false, _, hd, rfl, fun _ h => h, SK.kit (.deeds i) .NoAnswer, sz3, fun l1 hl1 => ?_⟩
    have S1 : Same H (upd H l1 (.lst [.bl true, .bl false, .bl false])) := same_new hl1
    have hd1 := S1 _ _ hd
    refine ⟨_, rfl, _, _, true, _, hd1, rfl, fun _ h => h, SK.kv (.deeds i), _, rfl, _, _, false, _, hd1, rfl, fun _ h => h, SK.kl (.deeds i), _, rfl, _, _, false, _, hd1, rfl, fun _ h => h, SK.ka (.deeds i), sz3, fun l2 hl2 => ⟨by decide, fun l3 hl3 => ⟨_, _, rfl, ?_⟩⟩⟩
    have S2 := S1.trans (same_new (o := .lst [.bl true, .bl false, .bl false]) hl2)
    have S3 := S2.trans (same_new (o := .lst []) hl3)
    have hd3 := S3 _ _ hd
    refine ⟨_, rfl, _, _, false, _, hd3, rfl, fun _ h => h, SK.kit (.deeds i) .Broken, _, rfl, iteF ⟨_, rfl, _, _, false, _, hd3, rfl, fun _ h => h, SK.kit (.deeds i) .InUse, _, rfl, iteF ⟨_, rfl, _, _, true, _, hd3, rfl, fun _ h => h, SK.kit (.deeds i) .InvalidDeeds, _, rfl, iteT ?_⟩⟩⟩
    refine ⟨_, rfl, .inl ⟨rfl, _, SqL.of upd_same⟩, ?_⟩
    refine ⟨_, rfl, rfl, _, _, hd3, by rfl, ?_⟩
    refine ⟨_, rfl, log_small ho, ?_⟩
    refine ⟨sz2, fun l4 hl4 => ⟨l3, [], .ref l4, rfl, rfl, same_new hl4 _ _ upd_same, by decide, ?_⟩⟩
    have hp := slip_heap (x := [.str "InvalidDeeds", .str (toString (i : Int))]) hl3 hl4
    generalize hH5 : upd (upd (upd (upd (upd H l1 (.lst [.bl true, .bl false, .bl false])) l2 (.lst [.bl true, .bl false, .bl false])) l3 (.lst [])) l4 (.lst [.str "InvalidDeeds", .str (toString (i : Int))])) l3 (.lst ([] ++ [V.ref l4])) = H5 at hp
    try rw [show upd (upd (upd (upd (upd H l1 (.lst [.bl true, .bl false, .bl false])) l2 (.lst [.bl true, .bl false, .bl false])) l3 (.lst [])) l4 (.lst [.str "InvalidDeeds", .str (toString (i : Int))])) l3 (.lst ([] ++ [V.ref l4])) = H5 from hH5]
    obtain ⟨S5, e3, e4⟩ := hp
    have hd5 := S5 _ _ (S2 _ _ hd)
    have e1 := S5 _ _ (same_new hl2 _ _ (upd_same (H := H) (a := l1) (o := .lst [.bl true, .bl false, .bl false])))
    have e2 := S5 _ _ (upd_same (H := upd H l1 (.lst [.bl true, .bl false, .bl false])) (a := l2) (o := .lst [.bl true, .bl false, .bl false]))
    refine ⟨_, rfl, _, _, false, _, hd5, rfl, fun _ h => h, SK.kit (.deeds i) .InvalidIndex, _, rfl, iteF ⟨_, rfl, _, _, false, _, hd5, rfl, fun _ h => h, SK.kit (.deeds i) .InvalidName, _, rfl, iteF ⟨_, rfl, _, _, false, _, hd5, rfl, fun _ h => h, SK.kit (.deeds i) .InvalidNumber, _, rfl, iteF ⟨_, rfl, _, _, false, _, hd5, rfl, fun _ h => h, SK.kit (.deeds i) .InvalidWish, _, rfl, iteF ⟨_, rfl, _, _, false, _, hd5, rfl, fun _ h => h, SK.kit (.deeds i) .NothingToUndo, _, rfl, iteF ⟨_, rfl, _, _, false, _, hd5, rfl, fun _ h => h, SK.kit (.deeds i) .UnknownName, _, rfl, iteF ?_⟩⟩⟩⟩⟩⟩
    refine ⟨_, rfl, l3, _, rfl, .inl (SqL.of e3), rfl, _, rfl, iteT ?_⟩
    refine ⟨_, rfl, _, rfl, .list [.bool true, .bool false, .bool false], .list [.bool true, .bool false, .bool false], .lst (SqL.of e1) (.cons (.bl _) (.cons (.bl _) (.cons (.bl _) .nil))), .lst (SqL.of e2) (.cons (.bl _) (.cons (.bl _) (.cons (.bl _) .nil))), by decide +kernel, by decide +kernel, true, by rw [show PyData.eqv (.list [.bool true, .bool false, .bool false]) (.list [.bool true, .bool false, .bool false]) = true by decide +kernel], iteT ?_⟩
    refine ⟨_, rfl, .inl ⟨rfl, _, SqL.of e1⟩, l1, _, _, rfl, rfl, e1, rfl, rfl, rfl, true, by rw [show decide (V.int ((List.countP (fun y => eqV y (V.bl true)) [V.bl true, V.bl false, V.bl false] : Nat) : Int) = V.int 1) = true by decide +kernel], iteT ?_⟩
    exact ⟨_, rfl, l3, _, 0, _, rfl, rfl, SqL.of e3, atI_nat (j := 0) rfl, k l4 H5 (S2.trans S5) e4⟩
end
end Pp
-- F6
/-! try: body, except (x1, x2, x3) as n: suite1, except y: suite2; each error that the body lets out is caught (the library's L2N.ps_try_as turned) -/
namespace Pp
open PySem PySem.Spec PyProof.Rows L2 L2N
abbrev hd1 (x1 x2 x3 n : Str) (p1 p2 p3 tp pos' : Pos) (kt : Nat) (su : List Stmt) : ExceptHandler := .ExceptHandler (some (.Tuple [.Name x1 p1, .Name x2 p2, .Name x3 p3] kt tp)) (some n) su pos'
def wHeard (K : PySem.W.Frag) (c1 c2 c3 c4 : Value) (i : Nat) (ts1 ts2 : Addr → Value → Option Addr → TS) (D : Ends) : WX := fun cls d σ H =>
  (PySem.W.exmAny K cls [c1, c2, c3] = some true ∧ ∀ a, H a = none → ts1 a cls d { nx := fun σ' H' => D.nx (σ'.set i none) H', rt := D.rt, bk := fun σ' H' => D.bk (σ'.set i none) H', ct := fun σ' H' => D.ct (σ'.set i none) H' } (σ.set i (some (.ref a))) H) ∨
    (PySem.W.exmAny K cls [c1, c2, c3] = some false ∧ PySem.W.exmOne K cls c4 = some true ∧ ∀ a, H a = none → ts2 a cls d D σ H)
theorem FlyingZ.kept {B h h' : Heap} {l : List Env} {e : Addr} {Z : Obj → Prop} (x : HandSPX.FlyingZ B l e Z h) (k : ∀ b o, h.get? b = some o → h'.get? b = some o) : HandSPX.FlyingZ B l e Z h' := by
  obtain ⟨f1, f2, f3, oe, vs, T, oT, ts, h1, h2, h3, h4, h5, h6, h7, h8, h9⟩ := x
  exact ⟨fun b o e => k b o (f1 b o e), f2, Heap.FunFrames.of_keeps (fun b o e _ => ⟨o, k b o e, rfl⟩) f3, oe, vs, T, oT, ts, k _ _ h1, h2, h3, h4, h5, h6, k _ _ h7, h8, h9⟩
section
variable {X : Cx} {x1 x2 x3 x4 n : Str} {c1 c2 c3 c4 : Value} {i : Nat} {body suite suite2 : List Stmt} {b₀ b₁ : Stmt} {p1 p2 p3 np tp pos pos' pos2 : Pos} {kt : Nat} {tb : WX → TS} {ts1 ts2 : Addr → Value → Option Addr → TS}
theorem ps_try_heard (hs : X.stack = X.env :: X.outer) (hf : X.env.frame = some X.env.locals) (hN : X.N.Nodup) (hi : X.N[i]? = some n) (hln : X.env.kindOf n = some .local) (hc1 : Gl X x1 ∧ X.mg x1 = some c1 ∧ (x1 == ("__debug__" : Str)) = false) (hc2 : Gl X x2 ∧ X.mg x2 = some c2 ∧ (x2 == ("__debug__" : Str)) = false) (hc3 : Gl X x3 ∧ X.mg x3 = some c3 ∧ (x3 == ("__debug__" : Str)) = false) (hc4 : Names X x4 c4)
    (hb : ∀ (W : WX) (pn : List (Addr × Obj)) (xe : Value → Shared → Prop), L2N.Takes (X.tr pn xe) W → PassesOwn (model X.prog X.w) X.A X.env xe → PSs (X.tr pn xe) body (tb W))
    (hsu1 : ∀ (a : Addr) (oe : Obj) (cls : Value) (d : Option Addr) (pn : List (Addr × Obj)), Zn cls d oe → (∃ vs, oe.data = .fields vs) → PSs (X.suite a ((a, oe) :: pn)) (b₀ :: suite) (ts1 a cls d))
    (hsu2 : ∀ (a : Addr) (oe : Obj) (cls : Value) (d : Option Addr) (pn : List (Addr × Obj)), Zn cls d oe → (∃ vs, oe.data = .fields vs) → PSs (X.suite a ((a, oe) :: pn)) (b₁ :: suite2) (ts2 a cls d)) :
    PS X (.Try body [hd1 x1 x2 x3 n p1 p2 p3 tp pos' kt (b₀ :: suite), .ExceptHandler (some (.Name x4 np)) none (b₁ :: suite2) pos2] [] [] pos) (fun D σ H => tb (wHeard X.K c1 c2 c3 c4 i ts1 ts2 D) D σ H) := by
  refine ⟨fun pins s σ H D I h => ?_⟩
  have ok := I.ok
  have hfr : X.A.frames = some (X.env :: X.outer) := by rw [ok.frames, hs]
  have hloc : Loc X.env.scope n := .inl hln
  refine wpAny_Try_except ?_
  refine wpAny_mono ((hb (wHeard X.K c1 c2 c3 c4 i ts1 ts2 D) (X.pn ++ pins) (fun e s₁ => wpAny (model X.prog X.w) X.A (noteFrame e X.env) (fun _ s₂ => wpAny (model X.prog X.w) X.A (setFlight e none) (fun _ s₃ =>
    wpAny (model X.prog X.w) X.A (handleBy e X.env [hd1 x1 x2 x3 n p1 p2 p3 tp pos' kt (b₀ :: suite), .ExceptHandler (some (.Name x4 np)) none (b₁ :: suite2) pos2]) (SP X pins D) X.xe s₃) X.xe s₂) X.xe s₁) (fun u s' xx => ?_) PassesOwn.looking).run [] s σ H D (I.toTry _) h) (fun f s1 hsp => ?_) (fun e s1 he => he)
  · -- the catch
    obtain ⟨a, B, sI, pins', σ', H', cls, d, rfl, J', nb, up, sky, na, os, ag, hw⟩ := xx
    have J : Inv X pins σ' H' sI := J'.ofTry ok
    have sky' : Sky B (X.env :: X.outer) a (Zn cls d) X.env.locals s'.heap := by rw [← hs]; exact sky
    show wpAny (model X.prog X.w) X.A (noteFrame (.ref a) X.env) _ _ _
    refine Sky.land Zn.steady hfr hf sky' fun h3 fl3 up3 => ?_
    have J3 : Inv X pins σ' H' { s' with heap := h3 } := J.landed nb fl3.1 (up.trans up3) os ag
    obtain ⟨oe3, vs3, he3, hz3, hd3⟩ := fl3.there
    have notFr : ∀ {h : Heap} {o : Obj} {vs : Array Value}, h.FunFrames B (X.env :: X.outer) → h.get? a = some o → o.data = .fields vs → a ∉ frs (X.env :: X.outer) := fun {h o vs} ff e dd hm => by
      obtain ⟨_, o', e', hnf⟩ := ff.mem hm
      rw [e] at e'; cases e'
      exact hnf _ dd
    have nfr := notFr fl3.2.2.1 he3 hd3
    have nL : a ≠ X.env.locals := fun z => nfr (List.mem_filterMap.mpr ⟨X.env, List.mem_cons_self, by rw [hf, z]⟩)
    have nF : a ∉ X.fs := fun hm => by
      obtain ⟨e, he, q⟩ := List.mem_filterMap.mp hm
      exact nfr (List.mem_filterMap.mpr ⟨e, List.mem_cons_of_mem _ he, q⟩)
    have S3 := J3.suite he3 hd3 na nL nF
    -- the three classes' tuple
    have hp4 : ∀ {o : Obj}, ∀ b u, h3.get? b = some u → (h3.push o).get? b = some u := fun b u e => Heap.get?_push_of_some _ e
    generalize hP : h3.push { cls := .type "tuple", data := .seq ([c1, c2, c3] : List Value).toArray } = hp
    have kp : ∀ b u, h3.get? b = some u → hp.get? b = some u := fun b u e => by rw [← hP]; exact Heap.get?_push_of_some _ e
    have gt : hp.get? h3.objs.size = some { cls := .type "tuple", data := .seq ([c1, c2, c3] : List Value).toArray } := by rw [← hP]; exact Heap.get?_push_size _ rfl
    have flp := FlyingZ.kept fl3 kp
    have upp : s'.heap.UpToSlots hp := up3.trans (Heap.UpToSlots.of_keeps kp)
    have Jp : Inv X pins σ' H' { s' with heap := hp } := J.landed nb flp.1 (up.trans upp) os ag
    have LT : ∀ {M : Model}, PySem.W.Looks M hp (typeOf (.ref a)) cls := fun {M} A Q E s k q => wpAny_typeOf_ref (k _ _ (kp _ _ he3)) (by rw [hz3.1]; exact q)
    have test1 : ∀ {Q : Value → Shared → Prop} {E : Value → Shared → Prop}, Q (.ref h3.objs.size) { s' with heap := hp } → wpAny (model X.prog X.w) (X.A.mark (some (.ref a))) (eval (.Tuple [.Name x1 p1, .Name x2 p2, .Name x3 p3] kt tp) X.env) Q E { s' with heap := h3 } := fun {Q E} q => by
      refine wpAny_Tuple_spliced (Calls.spliced_cons (ld_glob (X := X.suite a ((a, oe3) :: (X.pn ++ pins))) S3 hc1.1 hc1.2.1 ?_ hc1.2.2))
      refine Calls.spliced_cons (ld_glob (X := X.suite a ((a, oe3) :: (X.pn ++ pins))) S3 hc2.1 hc2.2.1 ?_ hc2.2.2)
      refine Calls.spliced_cons (ld_glob (X := X.suite a ((a, oe3) :: (X.pn ++ pins))) S3 hc3.1 hc3.2.1 ?_ hc3.2.2)
      refine Calls.spliced_nil ⟨by show 3 ≤ sizeLine; decide, ?_⟩
      show Q (.ref h3.objs.size) { s' with heap := h3.push { cls := .type "tuple", data := .seq ([c1, c2, c3] : List Value).toArray } }
      rw [hP]
      exact q
    refine wpAny_handleBy_cons (codeAny_handlers_test (test1 ?_)) (by intro q; cases q)
    rcases hw with ⟨hm, hyes⟩ | ⟨hm, hm2, hyes⟩
    · refine (PySem.W.exm_tup3 (M := model X.prog X.w) Jp.kIn LT gt hm).here ?_
      refine codeAny_handlers_suite_as ?_
      refine HandSPX.lands_againZ flp fun h4 fl4 up4 => ?_
      have J4 : Inv X pins σ' H' { s' with heap := h4 } := J.landed nb fl4.1 ((up.trans upp).trans up4) os ag
      obtain ⟨oe4, vs4, he4, hz4, hd4⟩ := fl4.there
      have S4 := J4.suite he4 hd4 na nL nF
      refine store_ok (X := X.suite a ((a, oe4) :: (X.pn ++ pins))) (v := .ref a) S4 hN hi hloc rfl (fun s5 S5 => ?_) (.inr hln)
      refine wpAny_mono ((hsu1 a oe4 cls d (X.pn ++ pins) hz4 ⟨_, hd4⟩).run [] s5 _ H' _ S5 (hyes a na)) (fun f s6 hsp => ?_) (fun _ _ z => False.elim z)
      have end_ : ∀ {σ6 : L2.St} {H6 : Hp} {Q : Shared → Prop}, Inv (X.suite a ((a, oe4) :: (X.pn ++ pins))) [] σ6 H6 s6 → (∀ s7, Inv X pins (σ6.set i none) H6 s7 → Q s7) →
          wpAny (model X.prog X.w) X.A (do bindName X.env n .none; unbindBehindTheSuite X.env n pos') (fun _ s7 => Q s7) X.xe s6 := fun {σ6 H6 Q} S6 hq => gone_ok (S6.unsuite ok) hN hi hln hq
      cases f with
      | next =>
        obtain ⟨σ6, H6, S6, q6⟩ := hsp
        exact end_ S6 fun s7 J7 => ⟨_, _, J7, q6⟩
      | brk =>
        obtain ⟨σ6, H6, S6, q6⟩ := hsp
        exact end_ S6 fun s7 J7 => ⟨_, _, J7, q6⟩
      | cont =>
        obtain ⟨σ6, H6, S6, q6⟩ := hsp
        exact end_ S6 fun s7 J7 => ⟨_, _, J7, q6⟩
      | ret u =>
        obtain ⟨v6, σ6, H6, S6, r6, q6⟩ := hsp
        exact end_ S6 fun s7 J7 => ⟨_, _, _, J7, r6, q6⟩
    · refine (PySem.W.exm_tup3 (M := model X.prog X.w) Jp.kIn LT gt hm).here ?_
      show wpAny _ X.A (handleBy (.ref a) X.env [.ExceptHandler (some (.Name x4 np)) none (b₁ :: suite2) pos2]) _ _ _
      have Sp := Jp.suite (kp _ _ he3) hd3 na nL nF
      have test2 : ∀ {Q : Value → Shared → Prop} {E : Value → Shared → Prop}, Q c4 { s' with heap := hp } → wpAny (model X.prog X.w) (X.A.mark (some (.ref a))) (eval (.Name x4 np) X.env) Q E { s' with heap := hp } := fun {Q E} q => by
        obtain ⟨hg, hdbg, hm | ⟨hm, hv, hnn⟩⟩ := hc4
        · exact ld_glob (X := X.suite a ((a, oe3) :: (X.pn ++ pins))) Sp hg hm q hdbg
        · exact ld_blt (X := X.suite a ((a, oe3) :: (X.pn ++ pins))) Sp hg hm hv q hnn hdbg
      refine wpAny_handleBy_cons (codeAny_handlers_test (test2 ((PySem.W.exm_one (M := model X.prog X.w) Jp.kIn LT hm2).here ?_))) (by intro q; cases q)
      refine codeAny_handlers_suite ?_
      refine HandSPX.lands_againZ flp fun h4 fl4 up4 => ?_
      have J4 : Inv X pins σ' H' { s' with heap := h4 } := J.landed nb fl4.1 ((up.trans upp).trans up4) os ag
      obtain ⟨oe4, vs4, he4, hz4, hd4⟩ := fl4.there
      have S4 := J4.suite he4 hd4 na nL nF
      refine wpAny_mono ((hsu2 a oe4 cls d (X.pn ++ pins) hz4 ⟨_, hd4⟩).run [] _ _ H' _ S4 (hyes a na)) (fun f s6 hsp => ?_) (fun _ _ z => False.elim z)
      cases f with
      | next =>
        obtain ⟨σ6, H6, S6, q6⟩ := hsp
        exact ⟨_, _, S6.unsuite ok, q6⟩
      | brk =>
        obtain ⟨σ6, H6, S6, q6⟩ := hsp
        exact ⟨_, _, S6.unsuite ok, q6⟩
      | cont =>
        obtain ⟨σ6, H6, S6, q6⟩ := hsp
        exact ⟨_, _, S6.unsuite ok, q6⟩
      | ret u =>
        obtain ⟨v6, σ6, H6, S6, r6, q6⟩ := hsp
        exact ⟨_, _, _, S6.unsuite ok, r6, q6⟩
  · cases f with
    | next =>
      obtain ⟨σ', H', J', q⟩ := hsp
      exact wpAny_execs_nil ⟨σ', H', J'.ofTry ok, q⟩
    | brk =>
      obtain ⟨σ', H', J', q⟩ := hsp
      exact ⟨σ', H', J'.ofTry ok, q⟩
    | cont =>
      obtain ⟨σ', H', J', q⟩ := hsp
      exact ⟨σ', H', J'.ofTry ok, q⟩
    | ret u =>
      obtain ⟨v, σ', H', J', r, q⟩ := hsp
      exact ⟨v, σ', H', J'.ofTry ok, r, q⟩
end

end Pp
-- F7
namespace Pp
open PySem PySem.Spec PyProof.Rows L2 L2H
theorem roomH_mk {k : Nat} {A : Around} (r : Room k A) (h : Option Value) : RoomH k (A.mark h) := ⟨r.dp, r.un⟩
def tSlip (mg : Str → Option Value) (a : Addr) (cls : Value) (d : Option Addr) (te : TE) : TE := fun σ H Q => te σ H fun x H1 => x = .ref a ∧ ∃ (e : Err) (dd : Addr), cls = .ref (clsA mg e.cls) ∧ d = some dd ∧ H1 dd = some (.xd [(e.fld, e.val)]) ∧ e.ok ∧
  ∀ r H', Same H1 H' → H' r = some (.lst [.str e.cls, .str e.rep]) → Q (.ref r) H'
section
variable {X : Cx} {k j : Nat} {a : Addr} {oe : Obj} {pn : List (Addr × Obj)} {e : Expr} {te : TE} {q pos : Pos}
theorem pe_slip {mg : Str → Option Value} {cls : Value} {d : Option Addr} (hmg : X.mg = mg) (D : SlipOk X.prog X.w X.K X.mg X.base k) (hr : Room j X.A) (hk : k ≤ j) (hg : Gl X "_law_slip") (hz : L2N.Zn cls d oe) (hf : ∃ vs, oe.data = .fields vs) (ha : PE (X.suite a ((a, oe) :: pn)) e te)
    (hs : starEach [e] X.env = (false, eval e X.env) :: starEach [] X.env := by rfl) : PE (X.suite a ((a, oe) :: pn)) (.Call (.Name "_law_slip" q) [e] [] pos) (tSlip mg a cls d te) := by
  subst hmg
  obtain ⟨f, fd, hm, kp, b, run⟩ := D.ex
  obtain ⟨vs, hv⟩ := hf
  have hot : Hot1 (X.suite a ((a, oe) :: pn)).A (a, oe) := ⟨rfl, vs, hv, hz.2.2 vs hv⟩
  refine ⟨fun pins s σ H Q I h => ?_⟩
  refine wpAny_Call_Name_kw (ld_glob I hg hm ?_ (by decide))
  refine PySem.W.callWith_K (h₀ := X.base) I.ok.mod.kin kp ?_ hs (by rfl)
  rw [hs]
  show wpAny _ _ (spliced ((false, eval e X.env) :: backTo pos (starEach [] X.env))) _ _ s
  refine Calls.spliced_cons (thn (ha.run pins s σ H _ I h) fun u s1 ⟨x, H1, I1, rx, ex, e0, dd, ec, ed, q1, q2, q3⟩ => ?_)
  subst ex ec ed
  obtain rfl : u = Value.ref a := rx
  refine Calls.spliced_nil ⟨I1.kIn, ?_⟩
  have P1 := I1.pin (a, oe) (List.mem_append_left _ List.mem_cons_self)
  have hpin : PinOk X.stack H1 s1 (a, oe) := ⟨P1.1, P1.2.1, fun hm => (List.mem_cons.mp (I1.stkSub a hm)).elim P1.2.2.1 P1.2.2.2.1, P1.2.2.2.2⟩
  have bb := b s1 [.ref a] I1.kIn rfl
  refine wpAny_call (codeAny_mono (run _ X.stack s1 H1 ⟨[.ref a], []⟩ (a, oe) Q ((roomH_mk hr _).mono hk) hot hpin I1.env0 bb ⟨e0, dd, ⟨vs, hv⟩, hz, q1, q2, q3⟩) fun r s' hq => ?_)
  cases r with
  | error e => exact (show False from hq).elim
  | ok fl =>
    cases fl with
    | ret u => exact I1.after hq
    | next => exact False.elim hq
    | brk => exact False.elim hq
    | cont => exact False.elim hq
end
/-- the facts that the except clauses ask -/
structure HeardK (K : PySem.W.Frag) (mg : Str → Option Value) : Prop where
  own : ∀ e : Err, PySem.W.exmAny K (.ref (clsA mg e.cls)) [.ref (clsA mg "WrongValue"), .ref (clsA mg "WrongName"), .ref (clsA mg "NoAnswer")] = some true
  key : PySem.W.exmAny K (.type "KeyError") [.ref (clsA mg "WrongValue"), .ref (clsA mg "WrongName"), .ref (clsA mg "NoAnswer")] = some false
abbrev s_l_heard : Stmt := top 78
theorem sc_l_heard : FnScope ["_law_call_here", "_law_e", "_law_got"] ["_law_call_here"] (defScope s_l_heard) := ⟨rfl, rfl, rfl, by decide +kernel, rfl, by decide +kernel, by decide +kernel⟩
abbrev N_l_heard : List Str := ["_law_call_here", "_law_e", "_law_got"]
/-- what is heard of a call -/
inductive Hd where
  | told (i : Nat)
  | err (e : Err)
  | plain
def Hd.zs : Hd → List Str
  | .told i => ["told", toString (i : Int)]
  | .err e => [e.cls, e.rep]
  | .plain => ["plain"]
def spHeard (FR : Addr → Sp → Prop) (mg : Str → Option Value) : Sp := fun vs H Q _ => ∃ f sl, ∃ R : Hd → Hp → Prop, vs = [.ref f] ∧ FR f sl ∧ IsFn H f ∧
  (∀ (Q' : VK) (E' : XK), (∀ (i : Nat) H', i < 10000 → R (.told i) H' → Q' (.int (i : Int)) H') → (∀ e cls d H', ErrAt mg H' cls d e → e.ok → R (.err e) H' → E' cls d H') → (∀ d H', R .plain H' → E' (.type "KeyError") d H') → sl [] H Q' E') ∧
  ∀ o r H' H'', R o H' → Same H' H'' → H'' r = some (.lst (o.zs.map V.str)) → Q (.ref r) H''
section
variable {P : Program} {w : World} {K : PySem.W.Frag} {mg : Str → Option Value} {base : Heap}
theorem d_l_heard {FR : Addr → Sp → Prop} (F : At K mg "_law_heard" s_l_heard) (hF : ∀ f sl, FR f sl → FnR P w K mg base (L2N.CX P w) 16 f sl) (B : Blt mg) (SK : SlipK K mg) (HK : HeardK K mg) (D_slip : SlipOk P w K mg base 1) : Dn P w K mg base CX0 17 "_law_heard" ["_law_call_here"] (spHeard FR mg) := by
  refine F.ok sc_l_heard (fun vs H Q E h => ?_) (fun _ _ _ _ _ _ us hl => match us, hl with | [_], _ => rfl) (fun f cdv A outer s H vs Q E hr h => ?_)
  · obtain ⟨_, _, _, rfl, _⟩ := h
    rfl
  obtain ⟨g, sl, R, rfl, hfr, hi, hsl, hQ⟩ := h
  refine ⟨_, pss_cons (ps_try_heard rfl rfl sc_l_heard.nd (i := 1) rfl rfl ⟨rfl, SK.own .WrongValue, by decide⟩ ⟨rfl, SK.own .WrongName, by decide⟩ ⟨rfl, SK.own .NoAnswer, by decide⟩ (c4 := .type "KeyError") ⟨rfl, by decide, .inr ⟨B.keyError, by decide +kernel, by decide⟩⟩
      (fun W pn xe tk po => pss_one (ps_set (i := 2) sc_l_heard.nd rfl (.inl rfl) (pe_callF0 (FR := FR) (i := 0) hF hr (by decide) rfl (.inl rfl) (fun σ => L2N.passAt tk σ))))
      (fun a oe cls d pn hz hd => pss_one (ps_ret (pe_slip (by exact rfl) D_slip hr (by decide) (by exact rfl) hz hd (pv 1))))
      (fun a oe cls d pn hz hd => pss_one (ps_ret (pe_lst (pa_cons pe_str pa_nil)))))
    (pss_one (ps_ret (pe_lst (pa_cons pe_str (pa_cons (pe_callB (id := "repr") SkE.call_repr_int (by rfl) B.repr (by decide +kernel) (pa_cons (pv 2) pa_nil)) pa_nil))))), ?_⟩
  refine ⟨g, sl, rfl, hfr, hi, hi, hsl _ _ (fun i H' h1 h2 => ?_) (fun e cls d H' h1 h2 h3 => ?_) (fun d H' h1 => ?_)⟩
  · refine ⟨_, rfl, _, rfl, log_small h1, sz2, fun r hr => ?_⟩
    exact hQ (.told i) r _ _ h2 (same_new hr) upd_same
  · obtain ⟨rfl, dd, rfl, hd⟩ := h1
    refine .inl ⟨HK.own e, fun a _ => ⟨_, rfl, rfl, e, dd, rfl, rfl, hd, h2, fun r H'' S hr => ?_⟩⟩
    exact hQ (.err e) r _ _ h3 S hr
  · refine .inr ⟨HK.key, exm_KE, fun a _ => ⟨sz1, fun r hr => ?_⟩⟩
    exact hQ .plain r _ _ h1 (same_new hr) upd_same
end
end Pp
-- G1
namespace Pp
open PySem PySem.Spec PyProof.Rows L2
/-! the law's jug: digits, a mix, a count -/
def JugAt (n : Nat) (H : Hp) (j : Addr) : Prop := ∃ d m c : Int, H j = some (.lst [.int d, .int m, .int c]) ∧ 0 ≤ d ∧ 0 ≤ m ∧ m < 2147483269 ∧ 0 ≤ c ∧ c ≤ (n : Int)
theorem JugAt.mono {n n' : Nat} (h : n ≤ n') {H : Hp} {j : Addr} (J : JugAt n H j) : JugAt n' H j := by
  obtain ⟨d, m, c, h1, h2, h3, h4, h5, h6⟩ := J
  exact ⟨d, m, c, h1, h2, h3, h4, h5, by omega⟩
theorem JugAt.on {n : Nat} {H H' : Hp} {j : Addr} (S : Same H H') (J : JugAt n H j) : JugAt n H' j := by
  obtain ⟨d, m, c, h1, h2⟩ := J
  exact ⟨d, m, c, S _ _ h1, h2⟩
abbrev s_l_jug : Stmt := top 57
theorem sc_l_jug : FnScope ["_law_cells", "_law_k", "_law_cell", "_law_mixed", "_law_each", "_law_digits"] ["_law_cells", "_law_k"] (defScope s_l_jug) := ⟨rfl, rfl, rfl, by decide +kernel, rfl, by decide +kernel, by decide +kernel⟩
abbrev N_l_jug : List Str := ["_law_cells", "_law_k", "_law_cell", "_law_mixed", "_law_each", "_law_digits"]
abbrev s_l_pull : Stmt := top 58
theorem sc_l_pull : FnScope ["_law_jug_here", "_law_top", "_law_figure", "_law_base"] ["_law_jug_here", "_law_top"] (defScope s_l_pull) := ⟨rfl, rfl, rfl, by decide +kernel, rfl, by decide +kernel, by decide +kernel⟩
abbrev N_l_pull : List Str := ["_law_jug_here", "_law_top", "_law_figure", "_law_base"]
def spPull : Sp := fun vs H Q _ => ∃ (j : Addr) (top n : Nat), vs = [.ref j, .int (top : Int)] ∧ JugAt n H j ∧ 1 ≤ top ∧ top ≤ 10 ^ 9 + 1 ∧ n < 10 ^ 9 ∧ ∀ (r : Nat) H', r < top → But j H H' → JugAt (n + 1) H' j → Q (.int (r : Int)) H'
abbrev s_l_one_of : Stmt := top 59
theorem sc_l_one_of : FnScope ["_law_jug_here", "_law_some"] ["_law_jug_here", "_law_some"] (defScope s_l_one_of) := ⟨rfl, rfl, rfl, by decide +kernel, rfl, by decide +kernel, by decide +kernel⟩
abbrev N_l_one_of : List Str := ["_law_jug_here", "_law_some"]
def spOneOf : Sp := fun vs H Q _ => ∃ (j l : Addr) (xs : List V) (n : Nat), vs = [.ref j, .ref l] ∧ JugAt n H j ∧ H l = some (.lst xs) ∧ l ≠ j ∧ 1 ≤ xs.length ∧ xs.length ≤ 1000 ∧ n < 10 ^ 9 ∧ ∀ x H', x ∈ xs → But j H H' → JugAt (n + 1) H' j → Q x H'
section
variable {P : Program} {w : World} {K : PySem.W.Frag} {mg : Str → Option Value} {base : Heap}
theorem d_l_pull (F : At K mg "_law_pull" s_l_pull) (B : Blt mg) : Dn P w K mg base CX0 1 "_law_pull" ["_law_jug_here", "_law_top"] spPull := by
  refine F.ok sc_l_pull (fun vs H Q E h => ?_) (fun _ _ _ _ _ _ us hl => match us, hl with | [_, _], _ => rfl) (fun f cdv A outer s H vs Q E hr h => ?_)
  · obtain ⟨_, _, _, rfl, _⟩ := h
    rfl
  obtain ⟨j, top, n, rfl, ⟨d, m, c, hj, d0, m0, m1, c0, c1⟩, t0, t1, hn, k⟩ := h
  refine ⟨_, (pss_cons (ps_if (pt_cmpR op_gt (pe_ix (r := rIxL K) ix_list (pv 0) pe_int (fun _ _ => rfl)) pe_int (nomark _)) (pss_cons (ps_set (i := 2) sc_l_pull.nd rfl (.inl rfl) (pe_op op_mod (pe_callTy call_int1 (by rfl) B.int (by decide +kernel) (pa_cons (pe_ix (r := rIxL K) ix_list (pv 0) pe_int (fun _ _ => rfl)) pa_nil)) (pv 1)))
  (pss_cons (ps_asg (pe_op op_fdivW (pe_ix (r := rIxL K) ix_list (pv 0) pe_int (fun _ _ => rfl)) (pv 1)) (pg_sub (pv 0) pe_int set_list))
  (pss_one (ps_ret (pv 2))))) pss_nil)
  (pss_cons (ps_asg (pe_op op_add (pe_ix (r := rIxL K) ix_list (pv 0) pe_int (fun _ _ => rfl)) pe_int) (pg_sub (pv 0) pe_int set_list))
  (pss_cons (ps_set (i := 3) sc_l_pull.nd rfl (.inl rfl) (pe_op op_mod (pe_callTy call_int1 (by rfl) B.int (by decide +kernel) (pa_cons (pe_op op_add (pe_ix (r := rIxL K) ix_list (pv 0) pe_int (fun _ _ => rfl)) (pe_op op_mulW pe_int (pe_ix (r := rIxL K) ix_list (pv 0) pe_int (fun _ _ => rfl)))) pa_nil)) pe_int))
  (pss_cons (ps_asg (pe_op op_mod (pe_callTy call_int1 (by rfl) B.int (by decide +kernel) (pa_cons (pe_op op_add (pe_op op_add (pe_op op_mulW (pv 3) (pe_op op_add (pe_op op_mod (pe_callTy call_int1 (by rfl) B.int (by decide +kernel) (pa_cons (pv 3) pa_nil)) pe_int) pe_int)) (pe_op op_mulW pe_int (pe_ix (r := rIxL K) ix_list (pv 0) pe_int (fun _ _ => rfl)))) pe_int) pa_nil)) pe_int) (pg_sub (pv 0) pe_int set_list))
  (pss_one (ps_ret (pe_op op_mod (pe_op op_fdivW (pe_callTy call_int1 (by rfl) B.int (by decide +kernel) (pa_cons (pe_ix (r := rIxL K) ix_list (pv 0) pe_int (fun _ _ => rfl)) pa_nil)) pe_int) (pv 1)))))))), ?_⟩
  have tp : (0 : Int) < (top : Int) := by omega
  have fig : ∀ z : Int, ∃ r : Nat, z % (top : Int) = (r : Int) ∧ r < top := fun z => by
    obtain ⟨r, hr⟩ := Int.eq_ofNat_of_zero_le (Int.emod_nonneg z (by omega : (top : Int) ≠ 0))
    have := Int.emod_lt_of_pos z tp
    exact ⟨r, hr, by omega⟩
  refine ⟨_, rfl, j, _, 0, _, rfl, rfl, SqL.of hj, atI_nat (j := 0) rfl, _, _, rfl, rfl, _, rfl, ?_⟩
  by_cases cc : 0 < d
  · rw [decide_eq_true cc]
    obtain ⟨r, hr1, hr2⟩ := fig d
    refine iteT ?_
    refine ⟨_, rfl, j, _, 0, _, rfl, rfl, SqL.of hj, atI_nat (j := 0) rfl, .inl ⟨d, rfl, _, rfl, d, _, rfl, rfl, tp, ?_⟩⟩
    refine ⟨_, rfl, j, _, 0, _, rfl, rfl, SqL.of hj, atI_nat (j := 0) rfl, _, rfl, d, _, rfl, rfl, wide_div (b := 60) tp (by rw [Int.natAbs_natCast]; omega) (by decide) (by decide), ?_⟩
    refine ⟨_, rfl, j, _, 0, 0, rfl, rfl, hj, rfl, ?_⟩
    refine ⟨_, rfl, ?_⟩
    show Q (.int (d % (top : Int))) _
    rw [hr1]
    exact k r _ hr2 But.upd ⟨d / top, m, c, upd_same, Int.ediv_nonneg d0 (by omega), m0, m1, c0, by omega⟩
  · rw [decide_eq_false cc]
    refine iteF ?_
    refine ⟨_, rfl, j, _, 2, _, rfl, rfl, SqL.of hj, atI_nat (j := 2) rfl, _, _, rfl, rfl, _, rfl, j, _, 2, 2, rfl, rfl, hj, rfl, ?_⟩
    have h1 : upd H j (.lst ([V.int d, V.int m, V.int c].set 2 (V.int (c + 1)))) j = some (.lst [.int d, .int m, .int (c + 1)]) := upd_same
    have cb : (c + 1).natAbs < 2 ^ 31 := by omega
    refine ⟨_, rfl, j, _, 1, _, rfl, rfl, SqL.of h1, atI_nat (j := 1) rfl, _, rfl, j, _, 2, _, rfl, rfl, SqL.of h1, atI_nat (j := 2) rfl, _, _, rfl, rfl, wide_mul (a := 17) (b := 31) (by decide) cb (by decide) (by decide) (by decide), _, _, rfl, rfl, .inl ⟨_, rfl, _, _, rfl, rfl, (show (0 : Int) < 2147483269 by decide), ?_⟩⟩
    have b0 := Int.emod_nonneg (m + 54121 * (c + 1)) (by decide : (2147483269 : Int) ≠ 0)
    have b1 := Int.emod_lt_of_pos (m + 54121 * (c + 1)) (by decide : (0 : Int) < 2147483269)
    generalize hb : (m + 54121 * (c + 1)) % 2147483269 = bb at b0 b1
    have g0 := Int.emod_nonneg bb (by decide : (36007 : Int) ≠ 0)
    have g1 := Int.emod_lt_of_pos bb (by decide : (0 : Int) < 36007)
    refine ⟨_, rfl, _, rfl, .inl ⟨_, rfl, _, _, rfl, rfl, (show (0 : Int) < 36007 by decide), _, _, rfl, rfl, _, _, rfl, rfl, wide_mul (a := 31) (b := 18) (by rw [hb]; omega) (by rw [hb]; omega) (by decide) (by decide) (by decide), ?_⟩⟩
    refine ⟨_, rfl, j, _, 2, _, rfl, rfl, SqL.of h1, atI_nat (j := 2) rfl, _, _, rfl, rfl, wide_mul (a := 6) (b := 31) (by decide) cb (by decide) (by decide) (by decide), _, _, rfl, rfl, _, _, rfl, rfl, .inl ⟨_, rfl, _, _, rfl, rfl, (show (0 : Int) < 2147483269 by decide), ?_⟩⟩
    refine ⟨_, rfl, j, _, 1, 1, rfl, rfl, h1, rfl, ?_⟩
    generalize hz : ((m + 54121 * (c + 1)) % 2147483269 * ((m + 54121 * (c + 1)) % 2147483269 % 36007 + 44029) + 53 * (c + 1) + 9) = z
    rw [upd_upd]
    have h2 : upd H j (.lst (List.set [V.int d, V.int m, V.int (c + 1)] 1 (V.int (z % 2147483269)))) j = some (.lst [.int d, .int (z % 2147483269), .int (c + 1)]) := upd_same
    refine ⟨_, rfl, j, _, 1, _, rfl, rfl, SqL.of h2, atI_nat (j := 1) rfl, .inl ⟨_, rfl, _, _, rfl, rfl, wide_div (b := 10) (by decide) (by decide) (by decide) (by decide), _, rfl, _, _, rfl, rfl, tp, ?_⟩⟩
    obtain ⟨r, hr1, hr2⟩ := fig (z % 2147483269 / 331)
    show Q (.int (z % 2147483269 / 331 % (top : Int))) _
    rw [hr1]
    exact k r _ hr2 But.upd ⟨d, z % 2147483269, c + 1, upd_same, d0, Int.emod_nonneg _ (by decide), Int.emod_lt_of_pos _ (by decide), by omega, by omega⟩
theorem d_l_one_of (F : At K mg "_law_one_of" s_l_one_of) (B : Blt mg) (D_l_pull : Dn P w K mg base CX0 1 "_law_pull" ["_law_jug_here", "_law_top"] spPull) : Dn P w K mg base CX0 2 "_law_one_of" ["_law_jug_here", "_law_some"] spOneOf := by
  refine F.ok sc_l_one_of (fun vs H Q E h => ?_) (fun _ _ _ _ _ _ us hl => match us, hl with | [_, _], _ => rfl) (fun f cdv A outer s H vs Q E hr h => ?_)
  · obtain ⟨_, _, _, _, rfl, _⟩ := h
    rfl
  obtain ⟨j, l, xs, n, rfl, hj, hl, ne, x0, x1, hn, k⟩ := h
  refine ⟨_, (pss_one (ps_ret (pe_ix (r := rIxL K) ix_list (pv 1) (pe_fn D_l_pull hr (by decide) rfl (pa_cons (pv 0) (pa_cons (pe_callB (id := "len") call_len_seq (by rfl) B.len (by decide +kernel) (pa_cons (pv 1) pa_nil)) pa_nil))) (fun _ _ => rfl)))), ?_⟩
  refine ⟨_, rfl, _, rfl, _, rfl, l, xs, rfl, .inl (SqL.of hl), j, xs.length, n, rfl, hj, x0, Nat.le_trans x1 (by decide), hn, fun r H' hr2 B' J' => ?_⟩
  exact ⟨l, xs, _, xs[r], rfl, rfl, SqL.of (B' _ _ ne hl), atI_nat (List.getElem?_eq_getElem hr2), k _ _ (List.getElem_mem hr2) B' J'⟩
end
end Pp
-- G2
namespace Pp
open PySem PySem.Spec PyProof.Rows L2
theorem abs_nat2 (i : Int) : (if i < 0 then -i else i) = (i.natAbs : Int) := by
  split <;> omega
theorem list_shaped (l : List Int) : SeqAt.shaped (.list (l.map PyData.int)) = true := by
  obtain ⟨h1, h2⟩ := ints_lay l
  simp [SeqAt.shaped, PyData.canLay0, PyData.depth, h1, h2]
abbrev s_l_common : Stmt := top 60
theorem sc_l_common : FnScope ["_law_one", "_law_two", "_law_turn"] ["_law_one", "_law_two"] (defScope s_l_common) := ⟨rfl, rfl, rfl, by decide +kernel, rfl, by decide +kernel, by decide +kernel⟩
abbrev N_l_common : List Str := ["_law_one", "_law_two", "_law_turn"]
def spCommon : Sp := fun vs H Q _ => ∃ a b : Int, vs = [.int a, .int b] ∧ b.natAbs ≤ 300 ∧ Q (.int (Nat.gcd a.natAbs b.natAbs : Nat)) H
abbrev s_l_power : Stmt := top 61
theorem sc_l_power : FnScope ["_law_row", "_law_found", "_law_each"] ["_law_row"] (defScope s_l_power) := ⟨rfl, rfl, rfl, by decide +kernel, rfl, by decide +kernel, by decide +kernel⟩
abbrev N_l_power : List Str := ["_law_row", "_law_found", "_law_each"]
/-- a plan's row -/
def RowAt (H : Hp) (l : Addr) (p : Plan) : Prop := H l = some (.lst [.int p.a, .int p.b, .int p.c, .int p.d])
/-- a plan as the law holds it -/
def LPlan (H : Hp) (x : Addr) (p : Plan) : Prop := ∃ l, H x = some (.tup [.int p.s, .ref l]) ∧ RowAt H l p
theorem LPlan.on {H H' : Hp} {x : Addr} {p : Plan} (S : Same H H') (h : LPlan H x p) : LPlan H' x p := by
  obtain ⟨l, h1, h2⟩ := h
  exact ⟨l, S _ _ h1, S _ _ h2⟩
def spPower : Sp := fun vs H Q _ => ∃ l p, vs = [.ref l] ∧ RowAt H l p ∧ PlanW p ∧ Q (.int (p.g : Int)) H
abbrev s_l_is_four : Stmt := top 65
theorem sc_l_is_four : FnScope ["_law_plan_here", "_law_row", "_law_each"] ["_law_plan_here"] (defScope s_l_is_four) := ⟨rfl, rfl, rfl, by decide +kernel, rfl, by decide +kernel, by decide +kernel⟩
abbrev N_l_is_four : List Str := ["_law_plan_here", "_law_row", "_law_each"]
def spLFour : Sp := fun vs H Q _ => ∃ x p, vs = [.ref x] ∧ LPlan H x p ∧ ∀ H', Same H H' → Q (.bl p.four) H'
section
variable {P : Program} {w : World} {K : PySem.W.Frag} {mg : Str → Option Value} {base : Heap}
theorem d_l_common (F : At K mg "_law_common" s_l_common) (B : Blt mg) : Dn P w K mg base CX0 1 "_law_common" ["_law_one", "_law_two"] spCommon := by
  refine F.ok sc_l_common (fun vs H Q E h => ?_) (fun _ _ _ _ _ _ us hl => match us, hl with | [_, _], _ => rfl) (fun f cdv A outer s H vs Q E hr h => ?_)
  · obtain ⟨_, _, rfl, _⟩ := h
    rfl
  obtain ⟨a, b, rfl, hb, k⟩ := h
  refine ⟨_, (pss_cons (ps_par (i := 0) (j := 1) rfl sc_l_common.nd rfl rfl (by decide) rfl rfl (pa_cons (pe_callB call_abs (by rfl) B.abs (by decide +kernel) (pa_cons (pv 0) pa_nil)) (pa_cons (pe_callB call_abs (by rfl) B.abs (by decide +kernel) (pa_cons (pv 1) pa_nil)) pa_nil)) (by rfl))
  (pss_cons (ps_for PassesOwn.never rfl (pi_range1 rfl B.range (pa_cons pe_int pa_nil)) (pg_name (i := 2) sc_l_common.nd rfl (.inl rfl))
    (pss_cons (ps_if (pt_cmpR op_eq (pv 1) pe_int (nomark _)) (pss_one ps_break) pss_nil)
  (pss_one (ps_par (i := 0) (j := 1) rfl sc_l_common.nd rfl rfl (by decide) rfl rfl (pa_cons (pv 1) (pa_cons (pe_op op_mod (pe_callTy call_int1 (by rfl) B.int (by decide +kernel) (pa_cons (pv 0) pa_nil)) (pv 1)) pa_nil)) (by rfl)))))
  (pss_one (ps_ret (pv 0))))), ?_⟩
  refine ⟨_, rfl, _, rfl, _, rfl, _, rfl, _, _, rfl, ?_⟩
  rw [abs_nat2, abs_nat2]
  refine ⟨400, rfl, by decide, by decide, ?_⟩
  refine for_it (walk_range (lo := 0) (n := 400)) (fun i σ H3 => H3 = H ∧ ∃ x y : Nat, ∃ t, σ = [some (.int (x : Int)), some (.int (y : Int)), t] ∧ Nat.gcd x y = Nat.gcd a.natAbs b.natAbs ∧ y + i ≤ b.natAbs) ⟨rfl, _, _, _, rfl, rfl, by omega⟩ (fun _ _ _ _ _ => True.intro) ?_ ?_
  · rintro i x σ H3 H4 hi ⟨rfl, x1, y1, t, rfl, hg, hy⟩ ⟨rfl, rfl⟩
    refine ⟨_, rfl, rfl, _, rfl, ?_⟩
    by_cases c : y1 = 0
    · rw [show decide (V.int (y1 : Int) = V.int 0) = true from decide_eq_true (by rw [c]; rfl)]
      refine iteT ⟨_, rfl, ?_⟩
      rw [c, Nat.gcd_zero_right] at hg
      rw [hg]
      exact k
    · rw [show decide (V.int (y1 : Int) = V.int 0) = false from decide_eq_false fun z => c (by injection z with z; omega)]
      refine iteF ⟨_, rfl, _, rfl, .inl ⟨_, rfl, _, rfl, _, _, rfl, rfl, (show (0 : Int) < (y1 : Int) by omega), _, _, rfl, rfl, y1, x1 % y1, some (.int (0 + (i : Int))), ?_, ?_, ?_⟩⟩
      · rw [Int.natCast_emod]
        rfl
      · rw [← hg, Nat.gcd_comm x1 y1, Nat.gcd_rec y1 x1, Nat.gcd_comm]
      · have := Nat.mod_lt x1 (Nat.pos_of_ne_zero c)
        omega
  · rintro σ H3 ⟨rfl, x1, y1, t, rfl, hg, hy⟩
    omega
theorem d_l_power (F : At K mg "_law_power" s_l_power) (B : Blt mg) (D_l_common : Dn P w K mg base CX0 1 "_law_common" ["_law_one", "_law_two"] spCommon) : Dn P w K mg base CX0 2 "_law_power" ["_law_row"] spPower := by
  refine F.ok sc_l_power (fun vs H Q E h => ?_) (fun _ _ _ _ _ _ us hl => match us, hl with | [_], _ => rfl) (fun f cdv A outer s H vs Q E hr h => ?_)
  · obtain ⟨_, _, rfl, _⟩ := h
    rfl
  obtain ⟨l, p, rfl, hl, hp, k⟩ := h
  refine ⟨_, (pss_cons (ps_set (i := 1) sc_l_power.nd rfl (.inl rfl) pe_int)
  (pss_cons (ps_for PassesOwn.never rfl (pi_list (pv 0)) (pg_name (i := 2) sc_l_power.nd rfl (.inl rfl))
    (pss_one (ps_set (i := 1) sc_l_power.nd rfl (.inl rfl) (pe_fn D_l_common hr (by decide) rfl (pa_cons (pv 1) (pa_cons (pv 2) pa_nil))))))
  (pss_one (ps_ret (pv 1))))), ?_⟩
  let row : List Int := [p.a, p.b, p.c, p.d]
  have hrow : H l = some (.lst (row.map V.int)) := hl
  have hsm : ∀ x ∈ row, x.natAbs ≤ 300 := by
    intro x hx
    have := hp.a
    have := hp.b
    have := hp.c
    have := hp.d
    simp only [row, List.mem_cons, List.not_mem_nil, or_false] at hx
    rcases hx with rfl | rfl | rfl | rfl <;> omega
  refine ⟨_, rfl, l, rfl, ⟨_, SqL.of hrow⟩, ?_⟩
  refine for_it (walk_list (K := K) (a := l) (xs := row.map V.int)) (fun i σ H3 => H3 = H ∧ ∃ t, σ = [some (.ref l), some (.int (((row.take i).foldl (fun g (x : Int) => Nat.gcd g x.natAbs) 0 : Nat) : Int)), t]) ⟨rfl, _, rfl⟩ (fun i σ H3 _ ⟨e, _⟩ => by rw [e]; exact SqL.of hrow) ?_ ?_
  · rintro i x σ H3 H4 hi ⟨rfl, t, rfl⟩ ⟨rfl, hx⟩
    rw [List.getElem?_map] at hx
    cases e : row[i]? with
    | none => rw [e] at hx; cases hx
    | some z =>
      rw [e] at hx
      obtain rfl : V.int z = x := Option.some.inj hx
      refine ⟨_, rfl, _, rfl, _, z, rfl, hsm z (List.mem_of_getElem? e), rfl, some (.int z), ?_⟩
      rw [List.take_succ, e, List.foldl_append]
      rfl
  · rintro σ H3 ⟨rfl, t, rfl⟩
    refine ⟨_, rfl, ?_⟩
    have e : (row.take (row.map V.int).length).foldl (fun g (x : Int) => Nat.gcd g x.natAbs) 0 = p.g := by
      show Nat.gcd (Nat.gcd (Nat.gcd (Nat.gcd 0 p.a.natAbs) p.b.natAbs) p.c.natAbs) p.d.natAbs = p.g
      rw [Nat.gcd_zero_left]
      rfl
    rw [e]
    exact k
theorem d_l_is_four (F : At K mg "_law_is_four" s_l_is_four) (B : Blt mg) : Dn P w K mg base CX0 1 "_law_is_four" ["_law_plan_here"] spLFour := by
  refine F.ok sc_l_is_four (fun vs H Q E h => ?_) (fun _ _ _ _ _ _ us hl => match us, hl with | [_], _ => rfl) (fun f cdv A outer s H vs Q E hr h => ?_)
  · obtain ⟨_, _, rfl, _⟩ := h
    rfl
  obtain ⟨x, p, rfl, ⟨l, hx, hl⟩, k⟩ := h
  refine ⟨_, (pss_cons (ps_set (i := 1) sc_l_is_four.nd rfl (.inl rfl) (pe_op op_cat (pe_lst (pa_cons (pe_op op_sub (pe_ix (r := rIxL K) ix_list (pe_ix (r := rIxT K) ix_tup (pv 0) pe_int (fun _ _ => rfl)) pe_int (fun _ _ => rfl)) pe_int) pa_nil)) (pe_slice sl_list (pe_ix (r := rIxT K) ix_tup (pv 0) pe_int (fun _ _ => rfl)) (po_some pe_int) po_none)))
  (pss_one (ps_ret (pe_and (pe_cmpR op_lt (pe_ix (r := rIxT K) ix_tup (pv 0) pe_int (fun _ _ => rfl)) pe_int (nomark _)) (pe_one (pe_cmpR (op_eqD hr.units) (pe_lc (own := [("_law_each", 2)]) (g := gName 2) rfl sc_l_is_four.nd (pi_list (pv 1)) (blkOk_by (own := [("_law_each", 2)]) (N := N_l_is_four) (sc := defScope s_l_is_four) (by decide +kernel)) (fun _ _ _ _ _ => pg_name (i := 2) sc_l_is_four.nd rfl (Or.inl rfl)) (fun _ _ _ _ _ => pts_one (pt_cmpR op_ne (pe_op op_mod (pe_callTy call_int1 (by rfl) B.int (by decide +kernel) (pa_cons (pv 2) pa_nil)) pe_int) pe_int (nomark _))) (fun _ _ _ _ _ => (pv 2))) (pe_lst pa_nil) (nomark _))))))), ?_⟩
  have S1 : ∀ {q : Addr} {o : HO}, H q = none → Same H (upd H q o) := fun hq => same_new hq
  refine ⟨_, rfl, x, _, 1, _, rfl, rfl, SqT.of hx, rfl, l, _, 0, _, rfl, rfl, SqL.of hl, rfl, _, _, rfl, rfl, sz1, fun q hq => ?_⟩
  refine ⟨_, rfl, x, _, 1, _, rfl, rfl, SqT.of (S1 hq _ _ hx), rfl, _, rfl, l, _, rfl, SqL.of (S1 hq _ _ hl), fun r hr2 => ?_⟩
  refine ⟨q, r, _, _, rfl, rfl, same_new hr2 _ _ upd_same, upd_same, (by decide : 1 + 3 ≤ sizeLine), fun w' hw => ?_⟩
  let ns : List Int := [p.a - 2, p.b, p.c, p.d]
  have Sw : Same H (upd (upd (upd H q (.lst [.int (p.a - 2)])) r (.lst (cutV [V.int p.a, .int p.b, .int p.c, .int p.d] (some 1) none))) w' (.lst ([V.int (p.a - 2)] ++ cutV [V.int p.a, .int p.b, .int p.c, .int p.d] (some 1) none))) := ((same_new hq).trans (same_new hr2)).trans (same_new hw)
  generalize hH1 : upd (upd (upd H q (.lst [.int (p.a - 2)])) r (.lst (cutV [V.int p.a, .int p.b, .int p.c, .int p.d] (some 1) none))) w' (.lst ([V.int (p.a - 2)] ++ cutV [V.int p.a, .int p.b, .int p.c, .int p.d] (some 1) none)) = H1 at Sw
  have hw1 : H1 w' = some (.lst (ns.map V.int)) := by rw [← hH1, upd_same]; rfl
  refine ⟨_, rfl, x, _, 0, _, rfl, rfl, SqT.of (Sw _ _ hx), rfl, _, _, rfl, rfl, _, rfl, ?_⟩
  by_cases c : p.s < 0
  · rw [decide_eq_true c]
    refine iteT ⟨_, rfl, w', rfl, ⟨_, SqL.of hw1⟩, fun D hD => ?_⟩
    refine lc_go (J := Itl K w') (n := (ns.map V.int).length) (j := 2) (Src.list (SqL.of hw1)) hD (by show 4 < 100000; decide) (fun _ => rfl) (fun i ys G => ys = ((ns.take i).filter fun z => !decide (z % 4 = 0)).map V.int) rfl (fun _ _ _ _ _ h => h) ?_ ?_
    · rintro i y ys H2 hi hy _ S2 hys I Qe Qn ke kn
      rw [List.getElem?_map] at hy
      cases e : ns[i]? with
      | none => rw [e] at hy; cases hy
      | some z =>
        rw [e] at hy
        obtain rfl : V.int z = y := Option.some.inj hy
        have ft := filter_take (fun z : Int => !decide (z % 4 = 0)) ns i z e
        refine ⟨_, rfl, .inl ⟨_, rfl, _, _, rfl, rfl, (show (0 : Int) < 4 by decide), rfl, _, rfl, ?_⟩⟩
        by_cases cz : z % 4 = 0
        · rw [show decide (V.int (z % 4) = V.int 0) = true from decide_eq_true (by rw [cz])]
          refine iteF (kn _ (Same.refl _) ?_)
          rw [ft, I, if_neg (by rw [decide_eq_true cz]; decide), List.append_nil]
        · rw [show decide (V.int (z % 4) = V.int 0) = false from decide_eq_false fun h => cz (by injection h)]
          refine iteT (B := Qn H2) ⟨_, rfl, ke _ _ (Same.refl _) ?_⟩
          rw [ft, I, if_pos (by rw [decide_eq_false cz]; decide), List.map_append]
          rfl
    · intro ys H2 S2 hys _ I
      have eys : ys = (ns.filter fun z => !decide (z % 4 = 0)).map V.int := by
        rw [I, List.length_map]
        rfl
      refine ⟨by decide, fun e he => ⟨.list ((ns.filter fun z => !decide (z % 4 = 0)).map PyData.int), .list [], .lst (SqL.of (same_new he _ _ (by rw [hys, eys]))) (dp_ints _), .lst (SqL.of upd_same) .nil, list_shaped _, by decide +kernel, ?_⟩⟩
      have ev : PyData.eqv (.list ((ns.filter fun z => !decide (z % 4 = 0)).map PyData.int)) (.list []) = p.four := by
        have e1 := eqvAll_ints (ns.filter fun z => !decide (z % 4 = 0)) []
        have e2 : PyData.eqv (.list ((ns.filter fun z => !decide (z % 4 = 0)).map PyData.int)) (.list []) = decide ((ns.filter fun z => !decide (z % 4 = 0)) = []) := by
          rw [← e1]
          simp [PyData.eqv]
        rw [e2]
        unfold Plan.four
        rw [decide_eq_true c, Bool.true_and]
        show decide (List.filter (fun z => !decide (z % 4 = 0)) [p.a - 2, p.b, p.c, p.d] = []) = _
        by_cases h1 : (p.a - 2) % 4 = 0 <;> by_cases h2 : p.b % 4 = 0 <;> by_cases h3 : p.c % 4 = 0 <;> by_cases h4 : p.d % 4 = 0 <;> simp [List.filter_cons, h1, h2, h3, h4]
      rw [ev]
      exact k _ ((Sw.trans S2).trans (same_new he))
  · rw [decide_eq_false c]
    refine iteF ?_
    have ev : p.four = false := by
      unfold Plan.four
      rw [decide_eq_false c, Bool.false_and]
    rw [ev] at k
    exact k _ Sw
end
end Pp
-- G3
namespace Pp
open PySem PySem.Spec PyProof.Rows L2
abbrev s_l_splits : Stmt := top 66
theorem sc_l_splits : FnScope ["_law_plan_here", "_law_upto", "_law_left", "_law_turn"] ["_law_plan_here", "_law_upto"] (defScope s_l_splits) := ⟨rfl, rfl, rfl, by decide +kernel, rfl, by decide +kernel, by decide +kernel⟩
abbrev N_l_splits : List Str := ["_law_plan_here", "_law_upto", "_law_left", "_law_turn"]
def spLSplits : Sp := fun vs H Q _ => ∃ (x : Addr) (p : Plan) (n : Nat), vs = [.ref x, .int (n : Int)] ∧ LPlan H x p ∧ PlanOk p ∧ 1 ≤ n ∧ n < 2 ^ 100 ∧ ∀ H', Same H H' → Q (.bl (p.splits n)) H'
abbrev s_l_is_always : Stmt := top 67
theorem sc_l_is_always : FnScope ["_law_plan_here", "_law_amount"] ["_law_plan_here"] (defScope s_l_is_always) := ⟨rfl, rfl, rfl, by decide +kernel, rfl, by decide +kernel, by decide +kernel⟩
abbrev N_l_is_always : List Str := ["_law_plan_here", "_law_amount"]
def spLAlways : Sp := fun vs H Q _ => ∃ (x : Addr) (p : Plan), vs = [.ref x] ∧ LPlan H x p ∧ PlanOk p ∧ ∀ H', Same H H' → Q (.bl p.always) H'
abbrev s_l_kind : Stmt := top 69
theorem sc_l_kind : FnScope ["_law_plan_here", "_law_many_here", "_law_primes_here", "_law_each"] ["_law_plan_here"] (defScope s_l_kind) := ⟨rfl, rfl, rfl, by decide +kernel, rfl, by decide +kernel, by decide +kernel⟩
abbrev N_l_kind : List Str := ["_law_plan_here", "_law_many_here", "_law_primes_here", "_law_each"]
def lkindD (p : Plan) : PyData := .list [.int p.s, (match p.kind.2.1 with | none => .str "all" | some l => .list (l.map PyData.int)), .bool p.four]
def spLKind (K : PySem.W.Frag) : Sp := fun vs H Q _ => ∃ (x : Addr) (p : Plan), vs = [.ref x] ∧ LPlan H x p ∧ PlanOk p ∧ ∀ v H', Same H H' → Dp K H' v (lkindD p) → Q v H'
theorem odd_even {k r : Nat} (h : r % 2 = 0) : oddIt (k + 1) r = oddIt k (r / 2) := by
  show oddIt k (if r % 2 = 0 then r / 2 else r) = _
  rw [if_pos h]
theorem odd_odd {k r : Nat} (h : ¬ r % 2 = 0) : oddIt (k + 1) r = oddIt k r := by
  show oddIt k (if r % 2 = 0 then r / 2 else r) = _
  rw [if_neg h]
theorem kind_fin : ∀ g : Fin 21, 0 < g.val → ∀ b : Bool, (([2, 3, 5, 7, 11, 13, 17, 19, 23, 29, 31] : List Int).filter fun z => decide (0 < g.val) && (decide ((g.val : Int) % z = 0) && (b || decide (2 < z)))) = ([2, 3, 5, 7, 11, 13, 17, 19] : List Int).filter fun q => decide ((g.val : Int) % q = 0) && (b || decide (2 < q)) := by decide +kernel
theorem kind_primes {s : Int} {g : Nat} (h0 : 0 < g) (h : g ≤ 20) : (([2, 3, 5, 7, 11, 13, 17, 19, 23, 29, 31] : List Int).filter fun z => decide (0 < g) && (decide ((g : Int) % z = 0) && (decide (0 < s) || decide (2 < z)))) = primesP s g := kind_fin ⟨g, by omega⟩ h0 (decide (0 < s))
theorem pow2_fin : ∀ g : Fin 21, inV (.int ((g.val : Nat) : Int)) [.int 1, .int 2, .int 4, .int 8, .int 16, .int 32, .int 64] = (decide (0 < g.val) && decide (oddP g.val = 1)) := by decide +kernel
theorem pow2_in {g : Nat} (h : g ≤ 20) : inV (.int (g : Int)) [.int 1, .int 2, .int 4, .int 8, .int 16, .int 32, .int 64] = (decide (0 < g) && decide (oddP g = 1)) := pow2_fin ⟨g, by omega⟩
section
variable {P : Program} {w : World} {K : PySem.W.Frag} {mg : Str → Option Value} {base : Heap}
theorem d_l_splits (F : At K mg "_law_splits" s_l_splits) (B : Blt mg) (D_l_common : Dn P w K mg base CX0 1 "_law_common" ["_law_one", "_law_two"] spCommon) (D_l_power : Dn P w K mg base CX0 2 "_law_power" ["_law_row"] spPower) (D_l_is_four : Dn P w K mg base CX0 1 "_law_is_four" ["_law_plan_here"] spLFour) :
    Dn P w K mg base CX0 3 "_law_splits" ["_law_plan_here", "_law_upto"] spLSplits := by
  refine F.ok sc_l_splits (fun vs H Q E h => ?_) (fun _ _ _ _ _ _ us hl => match us, hl with | [_, _], _ => rfl) (fun f cdv A outer s H vs Q E hr h => ?_)
  · obtain ⟨_, _, _, rfl, _⟩ := h
    rfl
  obtain ⟨x, p, n, rfl, hx0, hp, n1, n2, k⟩ := h
  obtain ⟨l, hx, hl⟩ := id hx0
  refine ⟨_, (pss_cons (ps_set (i := 2) sc_l_splits.nd rfl (.inl rfl) (pv 1))
  (pss_cons (ps_for PassesOwn.never rfl (pi_range1 rfl B.range (pa_cons (pe_ifExp (pt_cmpR op_lt (pe_ix (r := rIxT K) ix_tup (pv 0) pe_int (fun _ _ => rfl)) pe_int (nomark _)) pe_int pe_int) pa_nil)) (pg_name (i := 3) sc_l_splits.nd rfl (.inl rfl))
    (pss_one (ps_set (i := 2) sc_l_splits.nd rfl (.inl rfl) (pe_ifExp (pt_cmpR op_eq (pe_op op_mod (pe_callTy call_int1 (by rfl) B.int (by decide +kernel) (pa_cons (pv 2) pa_nil)) pe_int) pe_int (nomark _)) (pe_op op_fdivW (pv 2) pe_int) (pv 2)))))
  (pss_one (ps_ret (pe_or (pe_cmpR op_gt (pe_fn D_l_common hr (by decide) rfl (pa_cons (pv 2) (pa_cons (pe_fn D_l_power hr (by decide) rfl (pa_cons (pe_ix (r := rIxT K) ix_tup (pv 0) pe_int (fun _ _ => rfl)) pa_nil)) pa_nil))) pe_int (nomark _)) (pe_one (pe_and (pe_cmpR op_eq (pe_op op_mod (pe_callTy call_int1 (by rfl) B.int (by decide +kernel) (pa_cons (pv 1) pa_nil)) pe_int) pe_int (nomark _)) (pe_one (pe_fn D_l_is_four hr (by decide) rfl (pa_cons (pv 0) pa_nil)))))))))), ?_⟩
  -- behind the loop
  have rest : ∀ (r : Nat) (t : Option V), r = (if 0 < p.s then n else oddP n) → tRet (tOrV (tOp (rI0 fun i j => .bl (decide (j < i))) (tCall spCommon [] E0 (tCons (tVar 2) (tCons (tCall spPower [] E0 (tCons (tOp (rIxT K) (tVar 0) (tC (.int 1))) tNil)) tNil))) (tC (.int 1)))
      (tAndV (tOp rEq (tOp (rI (fun x j => 0 < j) fun i j => V.int (i % j)) (tCB (fun xs H Q => (∃ i, xs = [V.int i] ∧ Q (V.int i) H) ∨ ∃ k, xs = [V.bl k] ∧ Q (V.int (if k = true then 1 else 0)) H) (tCons (tVar 1) tNil)) (tC (V.int 4))) (tC (V.int 0))) (tCall spLFour [] E0 (tCons (tVar 0) tNil))))
      { nx := fun _ H' => Q .non H', rt := Q } [some (.ref x), some (.int (n : Int)), some (.int (r : Int)), t] H := by
    intro r t hr2
    refine ⟨_, rfl, _, rfl, x, _, 1, _, rfl, rfl, SqT.of hx, rfl, l, p, rfl, hl, hp.w, _, _, rfl, by rw [Int.natAbs_natCast]; exact Nat.le_trans hp.w.g_le (by decide), _, _, rfl, rfl, _, rfl, ?_⟩
    rw [Int.natAbs_natCast, Int.natAbs_natCast]
    have e1 : decide ((1 : Int) < ((Nat.gcd r p.g : Nat) : Int)) = decide (1 < Nat.gcd (if 0 < p.s then n else oddP n) p.g) := by
      rw [hr2]
      exact decide_eq_decide.mpr (by omega)
    rw [e1]
    unfold Plan.splits at k
    cases hb : decide (1 < Nat.gcd (if 0 < p.s then n else oddP n) p.g) with
    | true =>
      rw [hb] at k
      exact iteT (k _ (Same.refl _))
    | false =>
      rw [hb, Bool.false_or] at k
      refine iteF ⟨_, rfl, .inl ⟨_, rfl, _, _, rfl, rfl, (show (0 : Int) < 4 by decide), rfl, _, rfl, ?_⟩⟩
      rw [show decide (V.int ((n : Int) % 4) = V.int 0) = decide (n % 4 = 0) from decide_eq_decide.mpr ⟨fun z => by injection z with z; omega, fun z => by congr 1; omega⟩]
      cases hc : decide (n % 4 = 0) with
      | true =>
        rw [hc, Bool.true_and] at k
        exact iteT ⟨_, rfl, x, p, rfl, hx0, k⟩
      | false =>
        rw [hc, Bool.false_and] at k
        exact iteF (k _ (Same.refl _))
  refine ⟨_, rfl, ?_⟩
  refine ⟨_, rfl, x, _, 0, _, rfl, rfl, SqT.of hx, rfl, _, _, rfl, rfl, _, rfl, ?_⟩
  by_cases c : p.s < 0
  · have c' : ¬ 0 < p.s := by omega
    rw [decide_eq_true c]
    refine iteT ⟨100, rfl, by decide, by decide, ?_⟩
    refine for_it (walk_range (lo := 0) (n := 100)) (fun i σ H3 => H3 = H ∧ ∃ (r : Nat) (t : Option V), σ = [some (.ref x), some (.int (n : Int)), some (.int (r : Int)), t] ∧ oddIt (100 - i) r = oddP n) ⟨rfl, n, none, rfl, rfl⟩ (fun _ _ _ _ _ => True.intro) ?_ ?_
    · rintro i y σ H3 H4 hi ⟨rfl, r, t, rfl, ho⟩ ⟨rfl, rfl⟩
      have e : 100 - i = (100 - (i + 1)) + 1 := by omega
      rw [e] at ho
      refine ⟨_, rfl, .inl ⟨_, rfl, _, _, rfl, rfl, (show (0 : Int) < 2 by decide), rfl, _, rfl, ?_⟩⟩
      by_cases cc : r % 2 = 0
      · rw [show decide (V.int ((r : Int) % 2) = V.int 0) = true from decide_eq_true (by congr 1; omega)]
        refine iteT ⟨_, rfl, _, _, rfl, rfl, wide_div (b := 10) (by decide) (by decide) (by decide) (by decide), rfl, r / 2, some (.int (0 + (i : Int))), by rfl, ?_⟩
        rw [← ho]
        exact (odd_even cc).symm
      · rw [show decide (V.int ((r : Int) % 2) = V.int 0) = false from decide_eq_false fun z => cc (by injection z with z; omega)]
        refine iteF ⟨_, rfl, rfl, r, some (.int (0 + (i : Int))), rfl, ?_⟩
        rw [← ho]
        exact (odd_odd cc).symm
    · rintro σ H3 ⟨rfl, r, t, rfl, ho⟩
      exact rest r t (by rw [if_neg c']; exact ho)
  · have c' : 0 < p.s := by rcases hp.w.s with z | z <;> omega
    rw [decide_eq_false c]
    refine iteF ⟨0, rfl, by decide, by decide, ?_⟩
    refine for_it (walk_range (lo := 0) (n := 0)) (fun i σ H3 => H3 = H ∧ σ = [some (.ref x), some (.int (n : Int)), some (.int (n : Int)), none]) ⟨rfl, rfl⟩ (fun _ _ _ _ _ => True.intro) (fun i _ _ _ _ hi => absurd hi (Nat.not_lt_zero i)) ?_
    rintro σ H3 ⟨rfl, rfl⟩
    exact rest n none (by rw [if_pos c'])
theorem d_l_is_always (F : At K mg "_law_is_always" s_l_is_always) (B : Blt mg) (D_l_power : Dn P w K mg base CX0 2 "_law_power" ["_law_row"] spPower) (D_l_is_four : Dn P w K mg base CX0 1 "_law_is_four" ["_law_plan_here"] spLFour) :
    Dn P w K mg base CX0 3 "_law_is_always" ["_law_plan_here"] spLAlways := by
  refine F.ok sc_l_is_always (fun vs H Q E h => ?_) (fun _ _ _ _ _ _ us hl => match us, hl with | [_], _ => rfl) (fun f cdv A outer s H vs Q E hr h => ?_)
  · obtain ⟨_, _, rfl, _⟩ := h
    rfl
  obtain ⟨x, p, rfl, hx0, hp, k⟩ := h
  obtain ⟨l, hx, hl⟩ := id hx0
  refine ⟨_, (pss_cons (ps_set (i := 1) sc_l_is_always.nd rfl (.inl rfl) (pe_fn D_l_power hr (by decide) rfl (pa_cons (pe_ix (r := rIxT K) ix_tup (pv 0) pe_int (fun _ _ => rfl)) pa_nil)))
  (pss_cons (ps_if (pt_cmpR op_gt (pe_ix (r := rIxT K) ix_tup (pv 0) pe_int (fun _ _ => rfl)) pe_int (nomark _)) (pss_one (ps_ret (pe_cmpR op_eq (pv 1) pe_int (nomark _)))) pss_nil)
  (pss_one (ps_ret (pe_and (pe_cmpR op_in_seq (pv 1) (pe_lst (pa_cons pe_int (pa_cons pe_int (pa_cons pe_int (pa_cons pe_int (pa_cons pe_int (pa_cons pe_int (pa_cons pe_int pa_nil)))))))) rfl) (pe_one (pe_not (pe_fn D_l_is_four hr (by decide) rfl (pa_cons (pv 0) pa_nil))))))))), ?_⟩
  refine ⟨_, rfl, x, _, 1, _, rfl, rfl, SqT.of hx, rfl, l, p, rfl, hl, hp.w, ?_⟩
  refine ⟨_, rfl, x, _, 0, _, rfl, rfl, SqT.of hx, rfl, _, _, rfl, rfl, _, rfl, ?_⟩
  unfold Plan.always at k
  by_cases c : 0 < p.s
  · rw [decide_eq_true c]
    rw [if_pos c] at k
    refine iteT ⟨_, rfl, rfl, ?_⟩
    rw [show decide (V.int (p.g : Int) = V.int 1) = decide (p.g = 1) from decide_eq_decide.mpr ⟨fun z => by injection z with z; omega, fun z => by rw [z]; rfl⟩]
    exact k _ (Same.refl _)
  · rw [decide_eq_false c]
    rw [if_neg c] at k
    refine iteF ⟨_, rfl, by decide, fun q hq => ⟨q, _, rfl, .inl (SqL.of upd_same), rfl, by decide, _, rfl, ?_⟩⟩
    rw [show (if false = true then !inV (V.int (p.g : Int)) _ else inV (V.int (p.g : Int)) _) = (decide (0 < p.g) && decide (oddP p.g = 1)) from pow2_in hp.w.g_le]
    have S : Same H (upd H q (.lst [.int 1, .int 2, .int 4, .int 8, .int 16, .int 32, .int 64])) := same_new hq
    have e : (decide (0 < p.g) && (decide (oddP p.g = 1) && !p.four)) = ((decide (0 < p.g) && decide (oddP p.g = 1)) && !p.four) := by rw [Bool.and_assoc]
    rw [e] at k
    cases hb : (decide (0 < p.g) && decide (oddP p.g = 1)) with
    | true =>
      rw [hb, Bool.true_and] at k
      exact iteT ⟨_, rfl, x, p, rfl, hx0.on S, fun H' S' => ⟨_, rfl, k _ (S.trans S')⟩⟩
    | false =>
      rw [hb, Bool.false_and] at k
      exact iteF (k _ S)
theorem d_l_kind (F : At K mg "_law_kind" s_l_kind) (B : Blt mg) (D_l_power : Dn P w K mg base CX0 2 "_law_power" ["_law_row"] spPower) (D_l_is_four : Dn P w K mg base CX0 1 "_law_is_four" ["_law_plan_here"] spLFour) :
    Dn P w K mg base CX0 3 "_law_kind" ["_law_plan_here"] (spLKind K) := by
  refine F.ok sc_l_kind (fun vs H Q E h => ?_) (fun _ _ _ _ _ _ us hl => match us, hl with | [_], _ => rfl) (fun f cdv A outer s H vs Q E hr h => ?_)
  · obtain ⟨_, _, rfl, _⟩ := h
    rfl
  obtain ⟨x, p, rfl, hx0, hp, k⟩ := h
  obtain ⟨l, hx, hl⟩ := id hx0
  refine ⟨_, (pss_cons (ps_par (i := 1) (j := 2) rfl sc_l_kind.nd rfl rfl (by decide) rfl rfl (pa_cons (pe_fn D_l_power hr (by decide) rfl (pa_cons (pe_ix (r := rIxT K) ix_tup (pv 0) pe_int (fun _ _ => rfl)) pa_nil)) (pa_cons (pe_lst pa_nil) pa_nil)) (by rfl))
  (pss_cons (ps_for PassesOwn.never rfl (pi_list (pe_lst (pa_cons pe_int (pa_cons pe_int (pa_cons pe_int (pa_cons pe_int (pa_cons pe_int (pa_cons pe_int (pa_cons pe_int (pa_cons pe_int (pa_cons pe_int (pa_cons pe_int (pa_cons pe_int pa_nil))))))))))))) (pg_name (i := 3) sc_l_kind.nd rfl (.inl rfl))
    (pss_one (ps_if (PW.pt (pw_and (pt_cmpR op_gt (pv 1) pe_int (nomark _)) (pw_and (pt_cmpR op_eq (pe_op op_mod (pe_callTy call_int1 (by rfl) B.int (by decide +kernel) (pa_cons (pv 1) pa_nil)) (pv 3)) pe_int (nomark _)) (pw_and1 (PW.pt (pw_or (pt_cmpR op_gt (pe_ix (r := rIxT K) ix_tup (pv 0) pe_int (fun _ _ => rfl)) pe_int (nomark _)) (pw_or1 (pt_cmpR op_gt (pv 3) pe_int (nomark _))))))))) (pss_one (ps_expr (pe_bm PySem.F.plainAttrs_list PySem.F.slot_list_append PySem.F.type_list_append mt_append (pv 2) (pa_cons (pv 3) pa_nil)))) pss_nil)))
  (pss_one (ps_ret (pe_lst (pa_cons (pe_ix (r := rIxT K) ix_tup (pv 0) pe_int (fun _ _ => rfl)) (pa_cons (pe_ifExp (pt_cmpR op_gt (pv 1) pe_int (nomark _)) (pv 2) pe_str) (pa_cons (pe_fn D_l_is_four hr (by decide) rfl (pa_cons (pv 0) pa_nil)) pa_nil)))))))), ?_⟩
  let qs : List Int := [2, 3, 5, 7, 11, 13, 17, 19, 23, 29, 31]
  refine ⟨_, rfl, x, _, 1, _, rfl, rfl, SqT.of hx, rfl, l, p, rfl, hl, hp.w, by decide, fun D hD => ⟨_, _, rfl, ?_⟩⟩
  refine ⟨by decide, fun q hq => ⟨q, rfl, ⟨_, SqL.of upd_same⟩, ?_⟩⟩
  have nqD : q ≠ D := fun z => by rw [z, upd_same] at hq; cases hq
  have hq1 : (upd (upd H D (.lst [])) q (.lst [.int 2, .int 3, .int 5, .int 7, .int 11, .int 13, .int 17, .int 19, .int 23, .int 29, .int 31])) q = some (.lst (qs.map V.int)) := upd_same
  have hD1 : (upd (upd H D (.lst [])) q (.lst [.int 2, .int 3, .int 5, .int 7, .int 11, .int 13, .int 17, .int 19, .int 23, .int 29, .int 31])) D = some (.lst []) := by rw [upd_ne (Ne.symm nqD), upd_same]
  have S1 : Same H (upd (upd H D (.lst [])) q (.lst [.int 2, .int 3, .int 5, .int 7, .int 11, .int 13, .int 17, .int 19, .int 23, .int 29, .int 31])) := (same_new hD).trans (same_new hq)
  generalize upd (upd H D (.lst [])) q (.lst [.int 2, .int 3, .int 5, .int 7, .int 11, .int 13, .int 17, .int 19, .int 23, .int 29, .int 31]) = H1 at hq1 hD1 S1
  let fl : Int → Bool := fun z => decide (0 < p.g) && (decide ((p.g : Int) % z = 0) && (decide (0 < p.s) || decide (2 < z)))
  refine for_it (walk_list (K := K) (a := q) (xs := qs.map V.int)) (fun i σ H3 => (∃ t, σ = [some (.ref x), some (.int (p.g : Int)), some (.ref D), t]) ∧ (∀ c o, c ≠ D → H1 c = some o → H3 c = some o) ∧ H3 D = some (.lst (((qs.take i).filter fl).map V.int))) ⟨⟨_, rfl⟩, fun _ _ _ h => h, hD1⟩ (fun i σ H3 _ ⟨_, hk, _⟩ => SqL.of (hk _ _ nqD hq1)) ?_ ?_
  · rintro i y σ H3 H4 hi ⟨⟨t, rfl⟩, hk, hD3⟩ ⟨rfl, hy⟩
    rw [List.getElem?_map] at hy
    cases e : qs[i]? with
    | none => rw [e] at hy; cases hy
    | some z =>
      rw [e] at hy
      obtain rfl : V.int z = y := Option.some.inj hy
      have ft := filter_take fl qs i z e
      have zp : 0 < z := by
        have hm := List.mem_of_getElem? e
        simp only [qs, List.mem_cons, List.not_mem_nil, or_false] at hm
        omega
      have hx3 : H4 x = some (.tup [.int p.s, .ref l]) := hk _ _ (ne_of_none hx hD) (S1 _ _ hx)
      have no : fl z = false → (∃ t', ([some (V.ref x), some (.int (p.g : Int)), some (.ref D), t].set 3 (some (.int z))) = [some (.ref x), some (.int (p.g : Int)), some (.ref D), t']) ∧ (∀ c o, c ≠ D → H1 c = some o → H4 c = some o) ∧ H4 D = some (.lst (((qs.take (i + 1)).filter fl).map V.int)) := fun h => ⟨⟨some (.int z), rfl⟩, hk, by rw [ft, if_neg (by rw [h]; decide), List.append_nil]; exact hD3⟩
      refine ⟨_, rfl, _, _, rfl, rfl, _, rfl, ?_⟩
      cases c1 : decide ((0 : Int) < (p.g : Int)) with
      | false =>
        refine iteF (iteF (no ?_))
        show (decide (0 < p.g) && _) = false
        rw [show decide (0 < p.g) = false from decide_eq_false fun h => (of_decide_eq_false c1) (by omega), Bool.false_and]
      | true =>
        have g1 : decide (0 < p.g) = true := decide_eq_true (by have := of_decide_eq_true c1; omega)
        refine iteT ⟨_, rfl, .inl ⟨_, rfl, _, rfl, _, _, rfl, rfl, zp, rfl, _, rfl, ?_⟩⟩
        rw [show decide (V.int ((p.g : Int) % z) = V.int 0) = decide ((p.g : Int) % z = 0) from decide_eq_decide.mpr ⟨fun h => by injection h, fun h => by rw [h]⟩]
        cases c2 : decide ((p.g : Int) % z = 0) with
        | false =>
          refine iteF (iteF (no ?_))
          show (decide (0 < p.g) && (decide ((p.g : Int) % z = 0) && _)) = false
          rw [c2, Bool.false_and, Bool.and_false]
        | true =>
          refine iteT ⟨_, rfl, x, _, 0, _, rfl, rfl, SqT.of hx3, rfl, _, _, rfl, rfl, _, rfl, ?_⟩
          have yes : (decide (0 < p.s) || decide (2 < z)) = true → fl z = true := fun h => by
            show (decide (0 < p.g) && (decide ((p.g : Int) % z = 0) && (decide (0 < p.s) || decide (2 < z)))) = true
            rw [g1, c2, h]; rfl
          have app : (decide (0 < p.s) || decide (2 < z)) = true → (∃ t', ([some (V.ref x), some (.int (p.g : Int)), some (.ref D), t].set 3 (some (.int z))) = [some (.ref x), some (.int (p.g : Int)), some (.ref D), t']) ∧ (∀ c o, c ≠ D → H1 c = some o → upd H4 D (.lst ((((qs.take i).filter fl).map V.int) ++ [.int z])) c = some o) ∧ upd H4 D (.lst ((((qs.take i).filter fl).map V.int) ++ [.int z])) D = some (.lst (((qs.take (i + 1)).filter fl).map V.int)) :=
            fun h => ⟨⟨some (.int z), rfl⟩, fun c o hc ho => by rw [upd_ne hc]; exact hk c o hc ho, by rw [upd_same, ft, if_pos (yes h), List.map_append]; rfl⟩
          have len : (((qs.take i).filter fl).map V.int).length < sizeLine := by
            rw [List.length_map]
            exact Nat.lt_of_le_of_lt (Nat.le_trans (List.length_filter_le _ _) (Nat.le_trans (List.length_take_le' _ _) (by decide : qs.length ≤ 11))) (by decide)
          cases c3 : decide (0 < p.s) with
          | true =>
            rw [c3] at app
            refine iteT (iteT ⟨_, rfl, .inl ⟨rfl, _, SqL.of hD3⟩, _, rfl, D, _, _, rfl, rfl, hD3, len, app rfl⟩)
          | false =>
            rw [c3, Bool.false_or] at app
            refine iteF ⟨_, rfl, _, _, rfl, rfl, _, rfl, ?_⟩
            cases c4 : decide (2 < z) with
            | true => exact iteT ⟨_, rfl, .inl ⟨rfl, _, SqL.of hD3⟩, _, rfl, D, _, _, rfl, rfl, hD3, len, app c4⟩
            | false =>
              refine iteF (no ?_)
              show (decide (0 < p.g) && (decide ((p.g : Int) % z = 0) && (decide (0 < p.s) || decide (2 < z)))) = false
              rw [c3, c4, Bool.or_false, Bool.and_false, Bool.and_false]
  · rintro σ H3 ⟨⟨t, rfl⟩, hk, hD3⟩
    have S3 : Same H H3 := fun c o h => hk c o (ne_of_none h hD) (S1 c o h)
    have fin : ∀ (v : V) (H4 : Hp), Same H H4 → Dp K H4 v (match p.kind.2.1 with | none => .str "all" | some l => .list (l.map PyData.int)) → tCall spLFour [] E0 (tCons (tVar 0) tNil) [some (.ref x), some (.int (p.g : Int)), some (.ref D), t] H4 (fun y H5 => ([V.int p.s, v, y]).length ≤ sizeLine ∧ ∀ r, H5 r = none → Q (.ref r) (upd H5 r (.lst [.int p.s, v, y]))) := by
      intro v H4 S4 hv
      refine ⟨_, rfl, x, p, rfl, hx0.on S4, fun H5 S5 => ⟨by show 3 ≤ sizeLine; decide, fun r hr2 => k _ _ (S4.trans (S5.trans (same_new hr2))) ?_⟩⟩
      exact .lst (SqL.of upd_same) (.cons (.int _) (.cons (dp_on (S5.trans (same_new hr2)) hv) (.cons (.bl _) .nil)))
    refine ⟨_, rfl, x, _, 0, _, rfl, rfl, SqT.of (S3 _ _ hx), rfl, _, rfl, _, _, rfl, rfl, _, rfl, ?_⟩
    unfold Plan.kind at fin
    by_cases c : p.g = 0
    · rw [show decide ((0 : Int) < (p.g : Int)) = false from decide_eq_false (by omega)]
      refine iteF (fin _ H3 S3 ?_)
      rw [if_pos c]
      exact .str _
    · rw [show decide ((0 : Int) < (p.g : Int)) = true from decide_eq_true (by omega)]
      refine iteT ⟨_, rfl, fin _ H3 S3 ?_⟩
      rw [if_neg c]
      have e : ((qs.take (qs.map V.int).length).filter fl) = primesP p.s p.g := kind_primes (by omega) hp.w.g_le
      rw [e] at hD3
      exact .lst (SqL.of hD3) (dp_ints _)
end
end Pp
-- G4
namespace Pp
open PySem PySem.Spec PyProof.Rows L2
/-- the law's shelf -/
def LDic (H : Hp) (d : Addr) (sh : Shelf) : Prop := ∃ kvs, H d = some (.dK kvs) ∧ Rel2 (fun p v => ∃ a, v = .ref a ∧ LPlan H a p) sh kvs
theorem LDic.on {H H' : Hp} {d : Addr} {sh : Shelf} (S : Same H H') (h : LDic H d sh) : LDic H' d sh := by
  obtain ⟨kvs, hd, r⟩ := h
  exact ⟨kvs, S _ _ hd, r.imp fun p v ⟨a, e, n⟩ => ⟨a, e, n.on S⟩⟩
theorem LDic.get {H : Hp} {d : Addr} {sh : Shelf} (h : LDic H d sh) (A : Str) : (look sh A = none ∧ DGet H d (.str A) none) ∨ ∃ p a, look sh A = some p ∧ DGet H d (.str A) (some (.ref a)) ∧ LPlan H a p := by
  obtain ⟨kvs, hd, r⟩ := h
  have g : DGet H d (kV (Sum.inr A)) (valV kvs (Sum.inr A : Key)) := DGet.k hd
  rcases r.look (A := A) with ⟨h1, h2⟩ | ⟨p, v, h1, h2, a, rfl, hn⟩
  · left
    rw [h2] at g
    exact ⟨h1, g⟩
  · right
    rw [h2] at g
    exact ⟨p, a, h1, g, hn⟩
theorem lkind_eqv (p q : Plan) : PyData.eqv (lkindD p) (lkindD q) = decide (p.kind = q.kind) := by
  unfold lkindD
  have hs : p.s = p.kind.1 := rfl
  have hf : p.four = p.kind.2.2 := rfl
  have hs' : q.s = q.kind.1 := rfl
  have hf' : q.four = q.kind.2.2 := rfl
  rw [hs, hf, hs', hf']
  generalize p.kind = x
  generalize q.kind = y
  obtain ⟨s, l, f⟩ := x
  obtain ⟨s', l', f'⟩ := y
  have e : ∀ a b : Option (List Int), PyData.eqv (match a with | none => .str "all" | some l => .list (l.map PyData.int)) (match b with | none => .str "all" | some l => .list (l.map PyData.int)) = decide (a = b) := by
    intro a b
    cases a with
    | none =>
      cases b with
      | none => simp [PyData.eqv]
      | some m => simp [PyData.eqv]
    | some l =>
      cases b with
      | none => simp [PyData.eqv]
      | some m =>
        show PyData.eqvAll (l.map PyData.int) (m.map PyData.int) = _
        rw [eqvAll_ints]
        simp
  refine (congrArg (fun t => (s == s') && (t && ((f == f') && true))) (e l l')).trans ?_
  by_cases h1 : s = s' <;> by_cases h2 : l = l' <;> by_cases h3 : f = f' <;> simp [h1, h2, h3]
theorem lkind_shaped (p : Plan) : SeqAt.shaped (lkindD p) = true := by
  unfold lkindD
  generalize p.kind.2.1 = l
  cases l with
  | none =>
    simp [SeqAt.shaped, PyData.canLay0, PyData.canLayAll0, PyData.depth, PyData.depthAll]
    decide +kernel
  | some l =>
    obtain ⟨h1, h2⟩ := ints_lay l
    simp [SeqAt.shaped, PyData.canLay0, PyData.canLayAll0, PyData.depth, PyData.depthAll, h1, h2]
abbrev s_l_answer : Stmt := top 70
theorem sc_l_answer : FnScope ["_law_shelf", "_law_due", "_law_thing"] ["_law_shelf", "_law_due"] (defScope s_l_answer) := ⟨rfl, rfl, rfl, by decide +kernel, rfl, by decide +kernel, by decide +kernel⟩
abbrev N_l_answer : List Str := ["_law_shelf", "_law_due", "_law_thing"]
def spAnswer : Sp := fun vs H Q _ => ∃ d x wi sh, vs = [.ref d, .ref x] ∧ LDic H d sh ∧ ShOk sh ∧ WiAt H x wi ∧ WiOk wi ∧ ∀ H', Same H H' → Q (.bl (holdsW sh wi)) H'
abbrev s_l_broken : Stmt := top 72
theorem sc_l_broken : FnScope ["_law_shelf", "_law_wishes_here", "_law_k"] ["_law_shelf", "_law_wishes_here"] (defScope s_l_broken) := ⟨rfl, rfl, rfl, by decide +kernel, rfl, by decide +kernel, by decide +kernel⟩
abbrev N_l_broken : List Str := ["_law_shelf", "_law_wishes_here", "_law_k"]
/-- the wishes as the law holds them -/
def LWs (H : Hp) (l : Addr) (ws : List Wi) : Prop := ∃ as : List Addr, H l = some (.lst (as.map V.ref)) ∧ P2 (WiAt H) as ws
theorem LWs.on {H H' : Hp} {l : Addr} {ws : List Wi} (S : Same H H') (h : LWs H l ws) : LWs H' l ws := by
  obtain ⟨as, e, r⟩ := h
  exact ⟨as, S _ _ e, r.imp fun a w n => S _ _ n⟩
def brk (o : Option Nat) : Int := match o with
  | some i => (i : Int)
  | none => -1
def spBroken : Sp := fun vs H Q _ => ∃ d l sh ws, vs = [.ref d, .ref l] ∧ LDic H d sh ∧ ShOk sh ∧ LWs H l ws ∧ (∀ w ∈ ws, WiOk w) ∧ ws.length < 10000 ∧ ∀ H', Same H H' → Q (.int (brk (badAt sh ws))) H'
section
variable {P : Program} {w : World} {K : PySem.W.Frag} {mg : Str → Option Value} {base : Heap}
theorem d_l_answer (F : At K mg "_law_answer" s_l_answer) (B : Blt mg) (D_l_is_always : Dn P w K mg base CX0 3 "_law_is_always" ["_law_plan_here"] spLAlways) (D_l_kind : Dn P w K mg base CX0 3 "_law_kind" ["_law_plan_here"] (spLKind K)) (D_l_splits : Dn P w K mg base CX0 3 "_law_splits" ["_law_plan_here", "_law_upto"] spLSplits) :
    Dn P w K mg base CX0 4 "_law_answer" ["_law_shelf", "_law_due"] spAnswer := by
  refine F.ok sc_l_answer (fun vs H Q E h => ?_) (fun _ _ _ _ _ _ us hl => match us, hl with | [_, _], _ => rfl) (fun f cdv A outer s H vs Q E hr h => ?_)
  · obtain ⟨_, _, _, _, rfl, _⟩ := h
    rfl
  obtain ⟨d, x, wi, sh, rfl, hd, hs, hx, hw, k⟩ := h
  refine ⟨_, (pss_cons (ps_for PassesOwn.never rfl (pi_tup (pe_ifExp (pt_cmpR op_eq (pe_ix (r := rIxT K) ix_tup (pv 1) pe_int (fun _ _ => rfl)) pe_str (nomark _)) (pe_slice sl_tupA (pv 1) (po_some pe_int) (po_some pe_int)) (pe_slice sl_tupA (pv 1) (po_some pe_int) (po_some pe_int)))) (pg_name (i := 2) sc_l_answer.nd rfl (.inl rfl))
    (pss_one (ps_if (PW.pt (pw_or (pt_not (pt_val (pe_callB (id := "isinstance") (r := rIsi K) call_isi (by rfl) B.isinstance (by decide +kernel) (pa_cons (pv 2) (pa_cons (pe_bltn (v := .ty "str") (by rfl) B.str (by decide +kernel) rfl) pa_nil))))) (pw_or1 (pt_cmp (pc_dnotin (hu_of hr) (pv 2) (pv 0)))))) (pss_one (ps_ret pe_bl)) pss_nil)))
  (pss_cons (ps_if (pt_cmpR op_eq (pe_ix (r := rIxT K) ix_tup (pv 1) pe_int (fun _ _ => rfl)) pe_str (nomark _)) (pss_one (ps_ret (pe_fn D_l_is_always hr (by decide) rfl (pa_cons (pe_dget (by exact hu_of hr) (pv 0) (pe_ix (r := rIxT K) ix_tup (pv 1) pe_int (fun _ _ => rfl)) (fun _ _ => rfl)) pa_nil)))) pss_nil)
  (pss_cons (ps_if (pt_cmpR op_eq (pe_ix (r := rIxT K) ix_tup (pv 1) pe_int (fun _ _ => rfl)) pe_str (nomark _)) (pss_one (ps_ret (pe_cmpR (op_eqD hr.units) (pe_fn D_l_kind hr (by decide) rfl (pa_cons (pe_dget (by exact hu_of hr) (pv 0) (pe_ix (r := rIxT K) ix_tup (pv 1) pe_int (fun _ _ => rfl)) (fun _ _ => rfl)) pa_nil)) (pe_fn D_l_kind hr (by decide) rfl (pa_cons (pe_dget (by exact hu_of hr) (pv 0) (pe_ix (r := rIxT K) ix_tup (pv 1) pe_int (fun _ _ => rfl)) (fun _ _ => rfl)) pa_nil)) (nomark _)))) pss_nil)
  (pss_one (ps_ret (pe_cmpR op_eq (pe_fn D_l_splits hr (by decide) rfl (pa_cons (pe_dget (by exact hu_of hr) (pv 0) (pe_ix (r := rIxT K) ix_tup (pv 1) pe_int (fun _ _ => rfl)) (fun _ _ => rfl)) (pa_cons (pe_ix (r := rIxT K) ix_tup (pv 1) pe_int (fun _ _ => rfl)) pa_nil))) (pe_cmpR op_eq (pe_ix (r := rIxT K) ix_tup (pv 1) pe_int (fun _ _ => rfl)) pe_str (nomark _)) (nomark _))))))), ?_⟩
  have iter : ∀ (R : V → Hp → Prop), (∀ q H1, Same H H1 → H1 q = some (.tup (wi.names.map V.str)) → R (.ref q) H1) → tIf (tTest (tOp rEq (tOp (rIxT K) (tVar 1) (tC (.int 0))) (tC (.str "alike")))) (tSl (rSlA K) (tVar 1) (tPart (tC (.int 1))) (tPart (tC (.int 3)))) (tSl (rSlA K) (tVar 1) (tPart (tC (.int 1))) (tPart (tC (.int 2)))) [some (.ref d), some (.ref x), none] H R := by
    intro R hR
    cases wi with
    | spl b A n =>
      refine ⟨_, rfl, x, _, 0, _, rfl, rfl, SqT.of hx, rfl, rfl, _, rfl, ?_⟩
      rw [show decide (V.str (if b = true then "splits" else "whole") = V.str "alike") = false by cases b <;> decide +kernel]
      exact iteF ⟨_, rfl, _, rfl, _, rfl, sl_of hx hR⟩
    | alw A =>
      refine ⟨_, rfl, x, _, 0, _, rfl, rfl, SqT.of hx, rfl, rfl, _, rfl, ?_⟩
      rw [show decide (V.str "always" = V.str "alike") = false by decide +kernel]
      exact iteF ⟨_, rfl, _, rfl, _, rfl, sl_of hx hR⟩
    | alike A B =>
      refine ⟨_, rfl, x, _, 0, _, rfl, rfl, SqT.of hx, rfl, rfl, _, rfl, ?_⟩
      rw [show decide (V.str "alike" = V.str "alike") = true by decide +kernel]
      exact iteT ⟨_, rfl, _, rfl, _, rfl, sl_of hx hR⟩
  refine iter _ fun q H1 S1 hq => ⟨q, rfl, ⟨_, SqT.of hq⟩, ?_⟩
  refine for_it (walk_tup (K := K) (a := q) (xs := wi.names.map V.str)) (fun i σ H3 => Same H H3 ∧ H3 q = some (.tup (wi.names.map V.str)) ∧ (∃ t, σ = [some (.ref d), some (.ref x), t]) ∧ ∀ A ∈ wi.names.take i, (look sh A).isSome = true) ⟨S1, hq, ⟨_, rfl⟩, fun A hA => by simp at hA⟩ (fun i σ H3 _ h => SqT.of h.2.1) ?_ ?_
  · rintro i y σ H3 H4 hi ⟨S3, hq3, ⟨t, rfl⟩, hj⟩ ⟨rfl, hy⟩
    rw [List.getElem?_map] at hy
    obtain ⟨A, hA, rfl⟩ : ∃ A, wi.names[i]? = some A ∧ y = V.str A := by
      cases e : wi.names[i]? with
      | none => rw [e] at hy; cases hy
      | some z => rw [e] at hy; exact ⟨z, rfl, (Option.some.inj hy).symm⟩
    refine ⟨_, rfl, _, _, _, _, true, rfl, .ty _, .base (.str _), kit_ty (by decide +kernel), _, rfl, ?_⟩
    refine iteF ⟨_, rfl, _, rfl, d, ?_⟩
    rcases (hd.on S3).get A with ⟨h1, h2⟩ | ⟨p, a, h1, h2, _⟩
    · refine ⟨none, rfl, h2, _, rfl, iteT ?_⟩
      have e : holdsW sh wi = false := by
        have hm : A ∈ wi.names := List.mem_of_getElem? hA
        cases wi with
        | spl b B n =>
          have : A = B := by simpa [Wi.names] using hm
          rw [this] at h1
          simp only [holdsW, h1]
        | alw B =>
          have : A = B := by simpa [Wi.names] using hm
          rw [this] at h1
          simp only [holdsW, h1]
        | alike B B' =>
          have : A = B ∨ A = B' := by simpa [Wi.names] using hm
          rcases this with z | z
          · rw [z] at h1
            simp only [holdsW, h1]
          · rw [z] at h1
            simp only [holdsW, h1]
            cases look sh B <;> rfl
      rw [e] at k
      exact k _ S3
    · refine ⟨_, rfl, h2, _, rfl, iteF ⟨S3, hq3, ⟨_, rfl⟩, fun A' hA' => ?_⟩⟩
      rw [List.take_succ, hA] at hA'
      rcases List.mem_append.mp hA' with z | z
      · exact hj A' z
      · have : A' = A := by simpa using z
        rw [this, h1]
        rfl
  · rintro σ H3 ⟨S3, hq3, ⟨t, rfl⟩, hj⟩
    rw [List.length_map, List.take_length] at hj
    have hx3 := S3 _ _ hx
    have hd3 := hd.on S3
    cases wi with
    | spl b A n =>
      obtain ⟨_, n1, n2⟩ := hw
      rcases hd3.get A with ⟨h1, _⟩ | ⟨p, a, h1, h2, hn⟩
      · have := hj A (by simp [Wi.names])
        rw [h1] at this; cases this
      have ev : holdsW sh (.spl b A n) = (p.splits n == b) := by simp only [holdsW, h1]
      rw [ev] at k
      refine ⟨_, rfl, x, _, 0, _, rfl, rfl, SqT.of hx3, rfl, rfl, _, rfl, ?_⟩
      rw [show decide (V.str (if b = true then "splits" else "whole") = V.str "always") = false by cases b <;> decide +kernel]
      refine iteF ⟨_, rfl, x, _, 0, _, rfl, rfl, SqT.of hx3, rfl, rfl, _, rfl, ?_⟩
      rw [show decide (V.str (if b = true then "splits" else "whole") = V.str "alike") = false by cases b <;> decide +kernel]
      refine iteF ⟨_, rfl, _, rfl, x, _, 1, _, rfl, rfl, SqT.of hx3, rfl, d, _, rfl, h2, ?_⟩
      refine ⟨_, rfl, x, _, 2, _, rfl, rfl, SqT.of hx3, rfl, a, p, n, rfl, hn, hs.look h1, n1, Nat.lt_of_le_of_lt n2 p1030, fun H5 S5 => ?_⟩
      refine ⟨_, rfl, x, _, 0, _, rfl, rfl, SqT.of (S5 _ _ hx3), rfl, rfl, rfl, ?_⟩
      rw [show decide (V.str (if b = true then "splits" else "whole") = V.str "splits") = b by cases b <;> decide +kernel]
      have e3 : decide (V.bl (p.splits n) = V.bl b) = (p.splits n == b) := dec_bl
      rw [e3]
      exact k _ (S3.trans S5)
    | alw A =>
      rcases hd3.get A with ⟨h1, _⟩ | ⟨p, a, h1, h2, hn⟩
      · have := hj A (by simp [Wi.names])
        rw [h1] at this; cases this
      have ev : holdsW sh (.alw A) = p.always := by simp only [holdsW, h1]
      rw [ev] at k
      refine ⟨_, rfl, x, _, 0, _, rfl, rfl, SqT.of hx3, rfl, rfl, _, rfl, ?_⟩
      rw [show decide (V.str "always" = V.str "always") = true by decide +kernel]
      refine iteT ⟨_, rfl, _, rfl, x, _, 1, _, rfl, rfl, SqT.of hx3, rfl, d, _, rfl, h2, a, p, rfl, hn, hs.look h1, fun H5 S5 => k _ (S3.trans S5)⟩
    | alike A B' =>
      rcases hd3.get A with ⟨h1, _⟩ | ⟨p, a, h1, h2, hn⟩
      · have := hj A (by simp [Wi.names])
        rw [h1] at this; cases this
      rcases hd3.get B' with ⟨g1, _⟩ | ⟨p', a', g1, g2, hn'⟩
      · have := hj B' (by simp [Wi.names])
        rw [g1] at this; cases this
      have ev : holdsW sh (.alike A B') = decide (p.kind = p'.kind) := by simp only [holdsW, h1, g1]
      rw [ev] at k
      refine ⟨_, rfl, x, _, 0, _, rfl, rfl, SqT.of hx3, rfl, rfl, _, rfl, ?_⟩
      rw [show decide (V.str "alike" = V.str "always") = false by decide +kernel]
      refine iteF ⟨_, rfl, x, _, 0, _, rfl, rfl, SqT.of hx3, rfl, rfl, _, rfl, ?_⟩
      rw [show decide (V.str "alike" = V.str "alike") = true by decide +kernel]
      refine iteT ⟨_, rfl, _, rfl, x, _, 1, _, rfl, rfl, SqT.of hx3, rfl, d, _, rfl, h2, a, p, rfl, hn, hs.look h1, fun v H5 S5 hv => ?_⟩
      have hd5 := hd3.on S5
      rcases hd5.get B' with ⟨g1', _⟩ | ⟨p2, a2, g1', g2', hn2⟩
      · rw [g1] at g1'; cases g1'
      rw [g1] at g1'
      cases g1'
      refine ⟨_, rfl, _, rfl, x, _, 2, _, rfl, rfl, SqT.of (S5 _ _ hx3), rfl, d, _, rfl, g2', a2, p', rfl, hn2, hs.look g1, fun v' H6 S6 hv' => ?_⟩
      refine ⟨_, _, dp_on S6 hv, hv', lkind_shaped p, lkind_shaped p', ?_⟩
      rw [lkind_eqv]
      exact k _ (S3.trans (S5.trans S6))
theorem d_l_broken (F : At K mg "_law_broken" s_l_broken) (B : Blt mg) (D_l_answer : Dn P w K mg base CX0 4 "_law_answer" ["_law_shelf", "_law_due"] spAnswer) : Dn P w K mg base CX0 5 "_law_broken" ["_law_shelf", "_law_wishes_here"] spBroken := by
  refine F.ok sc_l_broken (fun vs H Q E h => ?_) (fun _ _ _ _ _ _ us hl => match us, hl with | [_, _], _ => rfl) (fun f cdv A outer s H vs Q E hr h => ?_)
  · obtain ⟨_, _, _, _, rfl, _⟩ := h
    rfl
  obtain ⟨d, l, sh, ws, rfl, hd, hs, ⟨as, hl, pw⟩, hw, hn, k⟩ := h
  refine ⟨_, (pss_cons (ps_for PassesOwn.never rfl (pi_range1 rfl B.range (pa_cons (pe_callB (id := "len") call_len_seq (by rfl) B.len (by decide +kernel) (pa_cons (pv 1) pa_nil)) pa_nil)) (pg_name (i := 2) sc_l_broken.nd rfl (.inl rfl))
    (pss_one (ps_if (pt_not (pt_val (pe_fn D_l_answer hr (by decide) rfl (pa_cons (pv 0) (pa_cons (pe_ix (r := rIxL K) ix_list (pv 1) (pv 2) (fun _ _ => rfl)) pa_nil))))) (pss_one (ps_ret (pv 2))) pss_nil)))
  (pss_one (ps_ret (pe_un un_neg pe_int)))), ?_⟩
  have ln : (as.map V.ref).length = ws.length := by rw [List.length_map, pw.len]
  refine ⟨_, rfl, l, _, rfl, .inl (SqL.of hl), ((as.map V.ref).length : Nat), rfl, by omega, by omega, ?_⟩
  rw [Int.toNat_natCast]
  refine for_it (walk_range (lo := 0) (n := (as.map V.ref).length)) (fun i σ H3 => Same H H3 ∧ (∃ t, σ = [some (.ref d), some (.ref l), t]) ∧ ∀ j w', j < i → ws[j]? = some w' → holdsW sh w' = true) ⟨Same.refl _, ⟨_, rfl⟩, fun j w' hj => absurd hj (Nat.not_lt_zero j)⟩ (fun _ _ _ _ _ => True.intro) ?_ ?_
  · rintro i y σ H3 H4 hi ⟨S3, ⟨t, rfl⟩, hj⟩ ⟨rfl, rfl⟩
    obtain ⟨c, wi, e1, hwi, hc⟩ := ref_at pw (List.getElem?_eq_getElem hi)
    have hwm : wi ∈ ws := List.mem_of_getElem? hwi
    have e0 : (0 : Int) + (i : Int) = (i : Int) := by omega
    refine ⟨_, rfl, _, rfl, _, rfl, l, _, _, (as.map V.ref)[i], rfl, rfl, SqL.of (S3 _ _ hl), ?_, ?_⟩
    · rw [e0]
      exact atI_nat (List.getElem?_eq_getElem hi)
    rw [e1]
    refine ⟨d, c, wi, sh, rfl, hd.on S3, hs, S3 _ _ hc, hw _ hwm, fun H5 S5 => ⟨_, rfl, ?_⟩⟩
    cases e : holdsW sh wi with
    | true =>
      refine iteF ⟨S3.trans S5, ⟨_, rfl⟩, fun j w' hj' hw' => ?_⟩
      by_cases z : j = i
      · subst z
        rw [hwi] at hw'
        cases hw'
        exact e
      · exact hj j w' (by omega) hw'
    | false =>
      have eb : badAt sh ws = some i := fi_some hwi (by rw [e]; rfl) fun j y hj' hy => by rw [hj j y hj' hy]; rfl
      rw [eb] at k
      refine iteT ⟨_, rfl, ?_⟩
      show Q (.int (0 + (i : Int))) _
      rw [e0]
      exact k _ (S3.trans S5)
  · rintro σ H3 ⟨S3, ⟨t, rfl⟩, hj⟩
    have eb : badAt sh ws = none := fi_none fun j y hy => by
      rw [hj j y ?_ hy]
      · rfl
      · rw [ln]
        exact (List.getElem?_eq_some_iff.mp hy).1
    rw [eb] at k
    exact ⟨_, rfl, k _ S3⟩
end
end Pp
-- G5
namespace Pp
open PySem PySem.Spec PyProof.Rows L2
abbrev s_l_pair : Stmt := top 62
theorem sc_l_pair : FnScope ["_law_sign", "_law_row", "_law_top", "_law_bottom", "_law_each", "_law_amount", "_law_turn"] ["_law_sign", "_law_row"] (defScope s_l_pair) := ⟨rfl, rfl, rfl, by decide +kernel, rfl, by decide +kernel, by decide +kernel⟩
abbrev N_l_pair : List Str := ["_law_sign", "_law_row", "_law_top", "_law_bottom", "_law_each", "_law_amount", "_law_turn"]
def qsP : List Nat := [2, 3, 5, 7]
def Plan.xs (p : Plan) : List Int := [p.a, p.b, p.c, p.d]
def TU (p : Plan) : Nat → Nat × Nat
  | 0 => (1, 1)
  | i + 1 => ((TU p i).1 * qsP.getD i 1 ^ (p.xs.getD i 0).toNat, (TU p i).2 * qsP.getD i 1 ^ (-(p.xs.getD i 0)).toNat)
theorem TU_end (p : Plan) : TU p 4 = (p.t, p.u) := by
  show (1 * 2 ^ p.a.toNat * 3 ^ p.b.toNat * 5 ^ p.c.toNat * 7 ^ p.d.toNat, 1 * 2 ^ (-p.a).toNat * 3 ^ (-p.b).toNat * 5 ^ (-p.c).toNat * 7 ^ (-p.d).toNat) = _
  rw [Nat.one_mul, Nat.one_mul]
  rfl
theorem q8 : ∀ i, qsP.getD i 1 ≤ 8
  | 0 => by decide
  | 1 => by decide
  | 2 => by decide
  | 3 => by decide
  | _ + 4 => by show (1 : Nat) ≤ 8; decide
/-- 8 ^ (20 i) -/
@[irreducible] def bd (i : Nat) : Nat := 8 ^ (20 * i)
theorem bd_succ {i x q k : Nat} (hx : x ≤ bd i) (hq : q ≤ 8) (hk : k ≤ 20) : x * q ^ k ≤ bd (i + 1) := by
  unfold bd at *
  rw [Nat.mul_succ, Nat.pow_add]
  exact Nat.mul_le_mul hx (Nat.le_trans (Nat.pow_le_pow_left hq k) (Nat.pow_le_pow_right (by decide) hk))
theorem bd_le {i : Nat} (h : i ≤ 4) : bd i < 2 ^ 241 := by
  unfold bd
  exact Nat.lt_of_le_of_lt (Nat.pow_le_pow_right (by decide) (show 20 * i ≤ 80 by omega)) (by decide)
theorem bd_q {x q j : Nat} (hx : x < 2 ^ 241) (hq : q ≤ 8) (hj : j ≤ 20) : x * q ^ j < 2 ^ 302 := by
  refine Nat.lt_of_le_of_lt (Nat.mul_le_mul (Nat.le_of_lt hx) (Nat.le_trans (Nat.pow_le_pow_left hq j) (Nat.pow_le_pow_right (by decide) hj))) ?_
  rw [show (2 : Nat) ^ 302 = 2 ^ 241 * 2 ^ 61 from Nat.pow_add 2 241 61]
  exact Nat.mul_lt_mul_of_pos_left (by decide) (Nat.pow_pos (by decide))
theorem sgn_abs {p : Plan} (hp : PlanW p) : p.s.natAbs = 1 := by
  rcases hp.s with e | e <;> rw [e] <;> rfl
theorem xs_le {p : Plan} (hp : PlanW p) : ∀ i, (p.xs.getD i 0).natAbs ≤ 20
  | 0 => hp.a
  | 1 => Nat.le_trans hp.b (by decide)
  | 2 => Nat.le_trans hp.c (by decide)
  | 3 => Nat.le_trans hp.d (by decide)
  | _ + 4 => by show (0 : Int).natAbs ≤ 20; decide
theorem TU_le {p : Plan} (hp : PlanW p) (i : Nat) : (TU p i).1 ≤ bd i ∧ (TU p i).2 ≤ bd i := by
  induction i with
  | zero =>
    have : 1 ≤ bd 0 := by unfold bd; decide
    exact ⟨this, this⟩
  | succ i ih =>
    obtain ⟨h1, h2⟩ := ih
    have hx := xs_le hp i
    exact ⟨bd_succ h1 (q8 i) (by omega), bd_succ h2 (q8 i) (by omega)⟩
def spPair : Sp := fun vs H Q _ => ∃ (l : Addr) (p : Plan), vs = [.int p.s, .ref l] ∧ RowAt H l p ∧ PlanW p ∧ ∀ a H', Same H H' → NumAt H' a p → Q (.ref a) H'
section
variable {P : Program} {w : World} {K : PySem.W.Frag} {mg : Str → Option Value} {base : Heap}
theorem d_l_pair (F : At K mg "_law_pair" s_l_pair) (B : Blt mg) : Dn P w K mg base CX0 1 "_law_pair" ["_law_sign", "_law_row"] spPair := by
  refine F.ok sc_l_pair (fun vs H Q E h => ?_) (fun _ _ _ _ _ _ us hl => match us, hl with | [_, _], _ => rfl) (fun f cdv A outer s H vs Q E hr h => ?_)
  · obtain ⟨_, _, rfl, _⟩ := h
    rfl
  obtain ⟨l, p, rfl, hl, hp, k⟩ := h
  refine ⟨_, (pss_cons (ps_par (i := 2) (j := 3) rfl sc_l_pair.nd rfl rfl (by decide) rfl rfl (pa_cons (pv 0) (pa_cons pe_int pa_nil)) (by rfl))
  (pss_cons (ps_for PassesOwn.never rfl (pi_zip (by rfl) B.zip (pa_cons (pe_lst (pa_cons pe_int (pa_cons pe_int (pa_cons pe_int (pa_cons pe_int pa_nil))))) (pa_cons (pv 1) pa_nil))) (pg_tup rfl (pgs_cons (pg_name (i := 4) sc_l_pair.nd rfl (.inl rfl)) (pgs_cons (pg_name (i := 5) sc_l_pair.nd rfl (.inl rfl)) pgs_nil)))
    (pss_one (ps_for PassesOwn.never rfl (pi_range1 rfl B.range (pa_cons (pe_callB call_abs (by rfl) B.abs (by decide +kernel) (pa_cons (pv 5) pa_nil)) pa_nil)) (pg_name (i := 6) sc_l_pair.nd rfl (.inl rfl))
    (pss_one (ps_asg (pe_ifExp (pt_cmpR op_gt (pv 5) pe_int (nomark _)) (pe_tup (pa_cons (pe_op op_mulW (pv 2) (pv 4)) (pa_cons (pv 3) pa_nil))) (pe_tup (pa_cons (pv 2) (pa_cons (pe_op op_mulW (pv 3) (pv 4)) pa_nil)))) (pg_tup rfl (pgs_cons (pg_name (i := 2) sc_l_pair.nd rfl (.inl rfl)) (pgs_cons (pg_name (i := 3) sc_l_pair.nd rfl (.inl rfl)) pgs_nil))))))))
  (pss_one (ps_ret (pe_tup (pa_cons (pv 2) (pa_cons (pv 3) pa_nil))))))), ?_⟩
  have hl' : H l = some (.lst (p.xs.map V.int)) := hl
  refine ⟨_, rfl, _, _, rfl, ?_⟩
  refine ⟨by decide, fun q hq => ⟨_, rfl, q, l, _, _, rfl, SqL.of upd_same, SqL.of (same_new hq _ _ hl'), ?_⟩⟩
  have S1 : Same H (upd H q (.lst [.int 2, .int 3, .int 5, .int 7])) := same_new hq
  have hq1 : upd H q (.lst [.int 2, .int 3, .int 5, .int 7]) q = some (.lst (qsP.map fun (n : Nat) => V.int (n : Int))) := upd_same
  generalize upd H q (.lst [.int 2, .int 3, .int 5, .int 7]) = H1 at S1 hq1
  refine for_it (walk_zip (K := K) (a := q) (b := l) (xs := qsP.map fun (n : Nat) => V.int (n : Int)) (ys := p.xs.map V.int) (n := 4) rfl) (fun i σ H3 => Same H1 H3 ∧ ∃ t1 t2 t3, σ = [some (.int p.s), some (.ref l), some (.int (p.s * ((TU p i).1 : Int))), some (.int ((TU p i).2 : Int)), t1, t2, t3]) ⟨Same.refl _, none, none, none, by show _ = [some (V.int p.s), some (V.ref l), some (V.int (p.s * 1)), some (V.int 1), none, none, none]; rw [Int.mul_one]; rfl⟩ (fun i σ H3 _ ⟨S3, _⟩ => ⟨SqL.of (S3 _ _ hq1), SqL.of (S3 _ _ (S1 _ _ hl'))⟩) ?_ ?_
  · rintro i y σ H3 H4 hi ⟨S3, t1, t2, t3, rfl⟩ ⟨T, x1, x2, rfl, hT, rfl, e1, e2⟩
    have e1' : (qsP.map fun (n : Nat) => V.int (n : Int))[i]? = some x1 := e1
    have e2' : (p.xs.map V.int)[i]? = some x2 := e2
    have q1 : x1 = .int ((qsP.getD i 1 : Nat) : Int) := by
      match i, hi with
      | 0, _ => exact (Option.some.inj e1').symm
      | 1, _ => exact (Option.some.inj e1').symm
      | 2, _ => exact (Option.some.inj e1').symm
      | 3, _ => exact (Option.some.inj e1').symm
    have q2 : x2 = .int (p.xs.getD i 0) := by
      match i, hi with
      | 0, _ => exact (Option.some.inj e2').symm
      | 1, _ => exact (Option.some.inj e2').symm
      | 2, _ => exact (Option.some.inj e2').symm
      | 3, _ => exact (Option.some.inj e2').symm
    subst q1 q2
    have hxb := xs_le hp i
    obtain ⟨b1, b2⟩ := TU_le hp i
    have hq8 := q8 i
    have hstep : TU p (i + 1) = ((TU p i).1 * qsP.getD i 1 ^ (p.xs.getD i 0).toNat, (TU p i).2 * qsP.getD i 1 ^ (-(p.xs.getD i 0)).toNat) := rfl
    have bl := bd_le (i := i) (by omega)
    have c1 := Nat.lt_of_le_of_lt b1 bl
    have c2 := Nat.lt_of_le_of_lt b2 bl
    clear b1 b2 bl e1 e2 e1' e2'
    rw [hstep]
    generalize p.xs.getD i 0 = x at hxb ⊢
    generalize qsP.getD i 1 = qq at hq8 ⊢
    generalize (TU p i).1 = TT at c1 ⊢
    generalize (TU p i).2 = UU at c2 ⊢
    refine ⟨T, _, rfl, SqT.of upd_same, rfl, _, _, rfl, _, _, rfl, rfl, ?_⟩
    refine ⟨_, rfl, _, rfl, _, rfl, by rw [abs_nat2]; omega, by rw [abs_nat2]; omega, ?_⟩
    rw [abs_nat2, Int.toNat_natCast]
    have S4 : Same H1 (upd H3 T (.tup [.int ((qq : Nat) : Int), .int x])) := S3.trans (same_new hT)
    refine for_it (walk_range (lo := 0) (n := x.natAbs)) (fun j σ H5 => Same H1 H5 ∧ ∃ t3, σ = [some (.int p.s), some (.ref l), some (.int (p.s * ((if 0 < x then TT * qq ^ j else TT : Nat) : Int))), some (.int ((if 0 < x then UU else UU * qq ^ j : Nat) : Int)), some (.int (qq : Int)), some (.int x), t3]) ?_ (fun _ _ _ _ _ => True.intro) ?_ ?_
    · refine ⟨S4, t3, ?_⟩
      rw [Nat.pow_zero, Nat.mul_one, Nat.mul_one, ite_self, ite_self]
      rfl
    · rintro j y σ H5 H6 hj ⟨S5, t4, rfl⟩ ⟨rfl, rfl⟩
      refine ⟨_, rfl, _, _, rfl, rfl, _, rfl, ?_⟩
      by_cases c : 0 < x
      · rw [show decide ((0 : Int) < x) = true from decide_eq_true c, if_pos c, if_pos c]
        refine iteT ⟨_, rfl, _, rfl, _, _, rfl, rfl, ?_, _, rfl, (show 2 ≤ sizeLine by decide), fun a ha => ⟨_, _, rfl, SqT.of upd_same, rfl, _, _, rfl, _, _, rfl, rfl, S5.trans (same_new ha), some (.int (0 + (j : Int))), ?_⟩⟩
        · refine wide_mul (a := 302) (b := 4) ?_ (by rw [Int.natAbs_natCast]; omega) (by decide) (by decide) (by decide)
          rw [Int.natAbs_mul, sgn_abs hp, Nat.one_mul, Int.natAbs_natCast]
          exact bd_q c1 hq8 (by omega)
        · rw [if_pos c, if_pos c, Nat.pow_succ, ← Nat.mul_assoc, Int.natCast_mul (TT * qq ^ j) qq, ← Int.mul_assoc]
          rfl
      · rw [show decide ((0 : Int) < x) = false from decide_eq_false c, if_neg c, if_neg c]
        refine iteF ⟨_, rfl, _, rfl, _, rfl, _, _, rfl, rfl, ?_, (show 2 ≤ sizeLine by decide), fun a ha => ⟨_, _, rfl, SqT.of upd_same, rfl, _, _, rfl, _, _, rfl, rfl, S5.trans (same_new ha), some (.int (0 + (j : Int))), ?_⟩⟩
        · refine wide_mul (a := 302) (b := 4) ?_ (by rw [Int.natAbs_natCast]; omega) (by decide) (by decide) (by decide)
          rw [Int.natAbs_natCast]
          exact bd_q c2 hq8 (by omega)
        · rw [if_neg c, if_neg c, Nat.pow_succ, ← Nat.mul_assoc, Int.natCast_mul (UU * qq ^ j) qq]
          rfl
    · rintro σ H5 ⟨S5, t4, rfl⟩
      refine ⟨S5, some (.int (qq : Int)), some (.int x), t4, ?_⟩
      by_cases c : 0 < x
      · rw [if_pos c, if_pos c, show x.natAbs = x.toNat by omega, show (-x).toNat = 0 by omega, Nat.pow_zero, Nat.mul_one]
      · rw [if_neg c, if_neg c, show x.natAbs = (-x).toNat by omega, show x.toNat = 0 by omega, Nat.pow_zero, Nat.mul_one]
  · rintro σ H3 ⟨S3, t1, t2, t3, rfl⟩
    rw [TU_end]
    refine ⟨_, rfl, _, rfl, (show 2 ≤ sizeLine by decide), fun a ha => ?_⟩
    exact k _ _ ((S1.trans S3).trans (same_new ha)) upd_same
end
end Pp
-- G6
namespace Pp
open PySem PySem.Spec PyProof.Rows L2
theorem But.ofU {j p : Addr} {H : Hp} {o : HO} (h : H p = none) : But j H (L2.upd H p o) := But.of (same_new h)
theorem JugAt.ne {n : Nat} {H : Hp} {j l : Addr} (J : JugAt n H j) (h : H l = none) : l ≠ j := by
  rintro rfl
  obtain ⟨_, _, _, e, _⟩ := J
  rw [h] at e
  cases e
theorem JugAt.neL {n : Nat} {H : Hp} {j l : Addr} {xs : List V} (J : JugAt n H j) (h : H l = some (.lst xs)) (hx : xs.length ≠ 3) : l ≠ j := by
  rintro rfl
  obtain ⟨_, _, _, e, _⟩ := J
  rw [h] at e
  injection e with e
  injection e with e
  rw [e] at hx
  exact hx rfl
theorem LPlan.but {n : Nat} {H H' : Hp} {j x : Addr} {p : Plan} (J : JugAt n H j) (b : But j H H') (h : LPlan H x p) : LPlan H' x p := by
  obtain ⟨l, h1, h2⟩ := h
  refine ⟨l, b _ _ ?_ h1, b _ _ (J.neL h2 (by show 4 ≠ 3; decide)) h2⟩
  rintro rfl
  obtain ⟨_, _, _, e, _⟩ := J
  rw [h1] at e
  cases e
abbrev s_l_small : Stmt := top 63
theorem sc_l_small : FnScope ["_law_jug_here", "_law_low", "_law_high", "_law_found", "_law_k"] ["_law_jug_here", "_law_low", "_law_high"] (defScope s_l_small) := ⟨rfl, rfl, rfl, by decide +kernel, rfl, by decide +kernel, by decide +kernel⟩
abbrev N_l_small : List Str := ["_law_jug_here", "_law_low", "_law_high", "_law_found", "_law_k"]
def spSmall : Sp := fun vs H Q _ => ∃ (j : Addr) (n : Nat) (lo hi : Int), vs = [.ref j, .int lo, .int hi] ∧ JugAt n H j ∧ n + 20 < 10 ^ 9 ∧ lo ≤ 0 ∧ 1 ≤ hi ∧ -20 ≤ lo ∧ hi ≤ 20 ∧ ∀ (l : Addr) (xs : List Int) H', But j H H' → JugAt (n + 10) H' j → H' l = some (.lst (xs.map V.int)) → xs.length = 4 → (∀ x ∈ xs, lo ≤ x ∧ x ≤ hi) → Q (.ref l) H'
/-- each figure of a list times one -/
theorem lc_scale {K : PySem.W.Frag} {v0 v1 v2 : V} {am : Int} {xs : List Int} {l D : Addr} {H1 : Hp} {Qd : Hp → Prop} (hl : H1 l = some (.lst (xs.map V.int))) (hn : xs.length = 4) (ha : am.natAbs ≤ 20) (hx : ∀ x ∈ xs, x.natAbs ≤ 20) (hD : H1 D = none)
    (hd : ∀ H', Same H1 H' → H' D = some (.lst (xs.map fun z => V.int (am * z))) → Qd H') :
    ∃ W : Nat → Nat → Hp → Prop, (∃ m, W 0 m (L2.upd H1 D (.lst []))) ∧ ∀ i m H, W i m H →
      ((Itl K l).stop i H ∧ Qd H) ∨ ((Itl K l).go i H ∧ ∃ Nx : Hp → Prop, (∀ H', Nx H' → ∃ m', m' < m ∧ W (i + 1) m' H') ∧ ∀ x H', (Itl K l).yld i H x H' → gName 4 x (wipe [some v0, some v1, some v2, some (.int am), none, none] [4]) H' fun σ2 H2 => wipe σ2 [4] = wipe [some v0, some v1, some v2, some (.int am), none, none] [4] ∧ tYes σ2 H2 fun b H3 =>
        if b = true then (tOp (rI CMulW fun i j => V.int (i * j)) (tVar 3) (tVar 4)) σ2 H3 fun y H4 => ∃ acc, H4 D = some (.lst acc) ∧ acc.length < sizeLine ∧ Nx (L2.upd H4 D (.lst (acc ++ [y]))) else Nx H3) := by
  refine lc_go (J := Itl K l) (n := (xs.map V.int).length) (j := 4) (Src.list (SqL.of hl)) hD (by rw [List.length_map, hn]; decide) (fun _ => rfl) (fun i ys G => ys = (xs.take i).map fun z => V.int (am * z)) rfl (fun _ _ _ _ _ h => h) ?_ ?_
  · rintro i y ys H2 hi hy _ S2 hys I Qe Qn ke kn
    rw [List.getElem?_map] at hy
    cases e : xs[i]? with
    | none => rw [e] at hy; cases hy
    | some z =>
      rw [e] at hy
      obtain rfl : V.int z = y := Option.some.inj hy
      have hz := hx z (List.mem_of_getElem? e)
      refine ⟨_, rfl, _, rfl, _, _, rfl, rfl, wide_mul (a := 6) (b := 6) (by omega) (by omega) (by decide) (by decide) (by decide), ke _ _ (Same.refl _) ?_⟩
      rw [List.take_succ, e, I, List.map_append]
      rfl
  · intro ys H2 S2 hys _ I
    refine hd H2 S2 ?_
    rw [hys, I, List.length_map, List.take_length]
theorem scale_abs {am x : Int} (h0 : 0 ≤ am) (h1 : am ≤ 12) (h2 : -1 ≤ x) (h3 : x ≤ 1) : (am * x).natAbs ≤ am.natAbs := by
  have : x = -1 ∨ x = 0 ∨ x = 1 := by omega
  rcases this with rfl | rfl | rfl <;> omega
theorem four_of {xs : List Int} (h : xs.length = 4) : ∃ a b c d, xs = [a, b, c, d] := by
  match xs, h with
  | [a, b, c, d], _ => exact ⟨a, b, c, d, rfl⟩
theorem planOk_of {s a b c d : Int} (hs : s = 1 ∨ s = -1) (ha : a.natAbs ≤ 18) (hb : b.natAbs ≤ 12) (hc : c.natAbs ≤ 12) (hd : d.natAbs ≤ 12) : PlanOk ⟨s, a, b, c, d⟩ := ⟨⟨hs, Nat.le_trans ha (by decide), hb, hc, hd⟩, ha⟩
abbrev s_l_plan : Stmt := top 64
theorem sc_l_plan : FnScope ["_law_jug_here", "_law_way", "_law_sign", "_law_amount", "_law_each", "_law_found"] ["_law_jug_here"] (defScope s_l_plan) := ⟨rfl, rfl, rfl, by decide +kernel, rfl, by decide +kernel, by decide +kernel⟩
abbrev N_l_plan : List Str := ["_law_jug_here", "_law_way", "_law_sign", "_law_amount", "_law_each", "_law_found"]
def spPlan : Sp := fun vs H Q _ => ∃ (j : Addr) (n : Nat), vs = [.ref j] ∧ JugAt n H j ∧ n + 50 < 10 ^ 9 ∧ ∀ (x : Addr) (p : Plan) H', But j H H' → JugAt (n + 20) H' j → LPlan H' x p → PlanOk p → Q (.ref x) H'
abbrev s_l_some_n : Stmt := top 68
theorem sc_l_some_n : FnScope ["_law_jug_here", "_law_some"] ["_law_jug_here"] (defScope s_l_some_n) := ⟨rfl, rfl, rfl, by decide +kernel, rfl, by decide +kernel, by decide +kernel⟩
abbrev N_l_some_n : List Str := ["_law_jug_here", "_law_some"]
def spSomeN : Sp := fun vs H Q _ => ∃ (j : Addr) (n : Nat), vs = [.ref j] ∧ JugAt n H j ∧ n + 50 < 10 ^ 9 ∧ ∀ (r : Nat) H', 1 ≤ r → r ≤ 10 ^ 30 → But j H H' → JugAt (n + 20) H' j → Q (.int (r : Int)) H'
section
variable {P : Program} {w : World} {K : PySem.W.Frag} {mg : Str → Option Value} {base : Heap}
theorem d_l_small (F : At K mg "_law_small" s_l_small) (B : Blt mg) (D_l_pull : Dn P w K mg base CX0 1 "_law_pull" ["_law_jug_here", "_law_top"] spPull) (D_l_one_of : Dn P w K mg base CX0 2 "_law_one_of" ["_law_jug_here", "_law_some"] spOneOf) : Dn P w K mg base CX0 3 "_law_small" ["_law_jug_here", "_law_low", "_law_high"] spSmall := by
  refine F.ok sc_l_small (fun vs H Q E h => ?_) (fun _ _ _ _ _ _ us hl => match us, hl with | [_, _, _], _ => rfl) (fun f cdv A outer s H vs Q E hr h => ?_)
  · obtain ⟨_, _, _, _, rfl, _⟩ := h
    rfl
  obtain ⟨j, n, lo, hi, rfl, hj, hn, l1, h1, l2, h2, k⟩ := h
  refine ⟨_, (pss_cons (ps_setLc (i := 3) (own := [("_law_k", 4)]) (g := gName 4) (by rfl) sc_l_small.nd rfl rfl (sw_true rfl rfl rfl (by decide +kernel)) (pi_range1 rfl B.range (pa_cons pe_int pa_nil)) (blkOk_by (own := [("_law_k", 4)]) (N := N_l_small) (sc := defScope s_l_small) (by decide +kernel)) (fun _ _ _ _ _ => pg_name (i := 4) sc_l_small.nd rfl (Or.inl rfl)) (fun _ _ _ _ _ => pts_nil) (fun _ _ _ _ _ => (pe_ifExp (pt_cmpR op_eq (pe_fn D_l_pull hr (by decide) rfl (pa_cons (pv 0) (pa_cons pe_int pa_nil))) pe_int (nomark _)) (pe_op op_add (pv 1) (pe_fn D_l_pull hr (by decide) rfl (pa_cons (pv 0) (pa_cons (pe_op op_add (pe_op op_sub (pv 2) (pv 1)) pe_int) pa_nil)))) pe_int)))
  (pss_cons (ps_asg (pe_fn D_l_one_of hr (by decide) rfl (pa_cons (pv 0) (pa_cons (pe_lst (pa_cons pe_int (pa_cons pe_int (pa_cons pe_int (pa_cons (pv 1) (pa_cons (pv 2) pa_nil)))))) pa_nil))) (pg_sub (pv 3) (pe_fn D_l_pull hr (by decide) rfl (pa_cons (pv 0) (pa_cons pe_int pa_nil))) set_list))
  (pss_one (ps_ret (pv 3))))), ?_⟩
  refine ⟨_, rfl, by decide, by decide, fun D hD => ?_⟩
  have hDj : D ≠ j := hj.ne hD
  refine lc_it (walk_range (lo := 0) (n := 4)) (fun i H3 => (∀ b o, b ≠ j → H b = some o → H3 b = some o) ∧ JugAt (n + 2 * i) H3 j ∧ ∃ xs : List Int, H3 D = some (.lst (xs.map V.int)) ∧ xs.length = i ∧ ∀ x ∈ xs, lo ≤ x ∧ x ≤ hi) ⟨fun b o _ e => same_new hD b o e, hj.on (same_new hD), [], upd_same, rfl, fun x hx => by cases hx⟩ (fun _ _ _ _ => True.intro) ?_ ?_
  · rintro i x H3 H4 hii ⟨b3, j3, xs, e3, hl, hb⟩ ⟨rfl, rfl⟩
    refine ⟨rfl, _, rfl, j, 2, n + 2 * i, rfl, j3, by decide, by decide, by omega, fun r H5 hr2 b5 j5 => ?_⟩
    have e5 := b5 _ _ hDj e3
    refine ⟨rfl, _, rfl, ?_⟩
    have fin : ∀ (y : Int) (H6 : Hp), lo ≤ y → y ≤ hi → But j H5 H6 → JugAt (n + 2 * (i + 1)) H6 j → ∃ acc, H6 D = some (.lst acc) ∧ acc.length < sizeLine ∧ (∀ b o, b ≠ j → H b = some o → L2.upd H6 D (.lst (acc ++ [V.int y])) b = some o) ∧ JugAt (n + 2 * (i + 1)) (L2.upd H6 D (.lst (acc ++ [V.int y]))) j ∧ ∃ xs : List Int, L2.upd H6 D (.lst (acc ++ [V.int y])) D = some (.lst (xs.map V.int)) ∧ xs.length = i + 1 ∧ ∀ x ∈ xs, lo ≤ x ∧ x ≤ hi := by
      intro y H6 y1 y2 b6 j6
      refine ⟨_, b6 _ _ hDj e5, ?_, fun b o hbj e => ?_, ?_, xs ++ [y], ?_, ?_, ?_⟩
      · rw [List.length_map, hl]
        exact Nat.lt_trans hii (by decide)
      · rw [upd_ne (ne_of_none e hD)]
        exact b6 _ _ hbj (b5 _ _ hbj (b3 _ _ hbj e))
      · obtain ⟨d, m, c, g1, g2⟩ := j6
        exact ⟨d, m, c, by rw [upd_ne (Ne.symm hDj)]; exact g1, g2⟩
      · rw [upd_same, List.map_append]
        rfl
      · rw [List.length_append, hl]
        rfl
      · intro x hx
        rcases List.mem_append.mp hx with z | z
        · exact hb x z
        · rw [List.mem_singleton.mp z]
          exact ⟨y1, y2⟩
    by_cases c : r = 0
    · rw [show decide (V.int (r : Int) = V.int 0) = true from decide_eq_true (by rw [c]; rfl)]
      refine iteT ⟨_, rfl, _, rfl, _, rfl, _, rfl, _, _, rfl, rfl, _, _, rfl, rfl, j, (hi - lo + 1).toNat, n + 2 * i + 1, ?_, j5, by omega, by omega, by omega, fun r2 H6 hr3 b6 j6 => ⟨_, _, rfl, rfl, ?_⟩⟩
      · rw [Int.toNat_of_nonneg (by omega)]
        rfl
      · exact fin _ H6 (by omega) (by omega) b6 j6
    · rw [show decide (V.int (r : Int) = V.int 0) = false from decide_eq_false fun z => c (by injection z with z; omega)]
      exact iteF (fin 0 H5 (by omega) (by omega) (But.refl _) (j5.mono (by omega)))
  · rintro H3 ⟨b3, j3, xs, e3, hl, hb⟩
    refine ⟨_, rfl, _, rfl, _, rfl, (by decide : 5 ≤ sizeLine), fun q hq => ?_⟩
    have jq := j3.on (same_new (o := .lst [V.int 1, .int 1, .int 0, .int lo, .int hi]) hq)
    have e4 := same_new (o := .lst [V.int 1, .int 1, .int 0, .int lo, .int hi]) hq _ _ e3
    refine ⟨j, q, _, n + 8, rfl, jq, upd_same, j3.ne hq, (by decide : 1 ≤ 5), (by decide : 5 ≤ 1000), by omega, fun x H5 hx b5 j5 => ?_⟩
    have e5 := b5 _ _ hDj e4
    obtain ⟨xi, rfl, x1, x2⟩ : ∃ xi : Int, x = .int xi ∧ lo ≤ xi ∧ xi ≤ hi := by
      simp only [List.mem_cons, List.not_mem_nil, or_false] at hx
      rcases hx with z | z | z | z | z <;> exact ⟨_, z, by omega, by omega⟩
    refine ⟨_, rfl, _, rfl, j, 4, n + 8 + 1, rfl, j5, by decide, by decide, by omega, fun r H6 hr2 b6 j6 => ?_⟩
    have e6 := b6 _ _ hDj e5
    have bb : But j H (L2.upd H6 D (.lst ((xs.map V.int).set r (.int xi)))) := fun b o hbj e => by
      rw [upd_ne (ne_of_none e hD)]
      exact b6 _ _ hbj (b5 _ _ hbj (same_new hq _ _ (b3 _ _ hbj e)))
    have hl' : (xs.map V.int).length = 4 := by rw [List.length_map, hl]
    have hb' : ∀ x ∈ xs.set r xi, lo ≤ x ∧ x ≤ hi := fun x hx => by
      rcases List.mem_or_eq_of_mem_set hx with z | z
      · exact hb x z
      · rw [z]
        exact ⟨x1, x2⟩
    refine ⟨D, xs.map V.int, _, r, rfl, rfl, e6, by rw [hl']; unfold ixN; rw [if_pos (by omega), if_pos (by omega)]; rfl, _, rfl, ?_⟩
    refine k D (xs.set r xi) _ bb ?_ (by rw [upd_same, List.map_set]) (by rw [List.length_set, hl]) hb'
    obtain ⟨d, m, c, g1, g2⟩ := j6
    exact ⟨d, m, c, by rw [upd_ne (Ne.symm hDj)]; exact g1, g2⟩
theorem d_l_plan (F : At K mg "_law_plan" s_l_plan) (B : Blt mg) (D_l_pull : Dn P w K mg base CX0 1 "_law_pull" ["_law_jug_here", "_law_top"] spPull) (D_l_one_of : Dn P w K mg base CX0 2 "_law_one_of" ["_law_jug_here", "_law_some"] spOneOf) (D_l_small : Dn P w K mg base CX0 3 "_law_small" ["_law_jug_here", "_law_low", "_law_high"] spSmall) : Dn P w K mg base CX0 4 "_law_plan" ["_law_jug_here"] spPlan := by
  refine F.ok sc_l_plan (fun vs H Q E h => ?_) (fun _ _ _ _ _ _ us hl => match us, hl with | [_], _ => rfl) (fun f cdv A outer s H vs Q E hr h => ?_)
  · obtain ⟨_, _, rfl, _⟩ := h
    rfl
  obtain ⟨j, n, rfl, hj, hn, k⟩ := h
  refine ⟨_, (pss_cons (ps_par (i := 1) (j := 2) rfl sc_l_plan.nd rfl rfl (by decide) rfl rfl (pa_cons (pe_fn D_l_pull hr (by decide) rfl (pa_cons (pv 0) (pa_cons pe_int pa_nil))) (pa_cons (pe_fn D_l_one_of hr (by decide) rfl (pa_cons (pv 0) (pa_cons (pe_lst (pa_cons pe_int (pa_cons pe_int (pa_cons (pe_un un_neg pe_int) pa_nil)))) pa_nil))) pa_nil)) (by rfl))
  (pss_cons (ps_if (pt_cmpR op_eq (pv 1) pe_int (nomark _)) (pss_one (ps_ret (pe_tup (pa_cons (pv 2) (pa_cons (pe_lst (pa_cons pe_int (pa_cons pe_int (pa_cons pe_int (pa_cons pe_int pa_nil))))) pa_nil))))) pss_nil)
  (pss_cons (ps_if (pt_cmpR op_lt (pv 1) pe_int (nomark _)) (pss_cons (ps_set (i := 3) sc_l_plan.nd rfl (.inr rfl) (pe_fn D_l_one_of hr (by decide) rfl (pa_cons (pv 0) (pa_cons (pe_lst (pa_cons pe_int (pa_cons pe_int (pa_cons pe_int (pa_cons pe_int (pa_cons pe_int (pa_cons pe_int (pa_cons pe_int (pa_cons pe_int (pa_cons pe_int (pa_cons pe_int pa_nil))))))))))) pa_nil))))
  (pss_one (ps_ret (pe_tup (pa_cons (pv 2) (pa_cons (pe_lc (own := [("_law_each", 4)]) (g := gName 4) rfl sc_l_plan.nd (pi_list (pe_fn D_l_small hr (by decide) rfl (pa_cons (pv 0) (pa_cons (pe_un un_neg pe_int) (pa_cons pe_int pa_nil))))) (blkOk_by (own := [("_law_each", 4)]) (N := N_l_plan) (sc := defScope s_l_plan) (by decide +kernel)) (fun _ _ _ _ _ => pg_name (i := 4) sc_l_plan.nd rfl (Or.inl rfl)) (fun _ _ _ _ _ => pts_nil) (fun _ _ _ _ _ => (pe_op op_mulW (pv 3) (pv 4)))) pa_nil)))))) pss_nil)
  (pss_cons (ps_if (pt_cmpR op_eq (pv 1) pe_int (nomark _)) (pss_cons (ps_set (i := 3) sc_l_plan.nd rfl (.inr rfl) (pe_fn D_l_one_of hr (by decide) rfl (pa_cons (pv 0) (pa_cons (pe_lst (pa_cons pe_int (pa_cons pe_int (pa_cons pe_int pa_nil)))) pa_nil))))
  (pss_cons (ps_setLc (i := 5) (own := [("_law_each", 4)]) (g := gName 4) (by rfl) sc_l_plan.nd rfl rfl (sw_true rfl rfl rfl (by decide +kernel)) (pi_list (pe_fn D_l_small hr (by decide) rfl (pa_cons (pv 0) (pa_cons (pe_un un_neg pe_int) (pa_cons pe_int pa_nil))))) (blkOk_by (own := [("_law_each", 4)]) (N := N_l_plan) (sc := defScope s_l_plan) (by decide +kernel)) (fun _ _ _ _ _ => pg_name (i := 4) sc_l_plan.nd rfl (Or.inl rfl)) (fun _ _ _ _ _ => pts_nil) (fun _ _ _ _ _ => (pe_op op_mulW (pv 3) (pv 4))))
  (pss_one (ps_ret (pe_tup (pa_cons (pe_un un_neg pe_int) (pa_cons (pe_op op_cat (pe_lst (pa_cons (pe_op op_add (pe_ix (r := rIxL K) ix_list (pv 5) pe_int (fun _ _ => rfl)) (pe_ifExp (pt_cmpR op_eq (pv 3) pe_int (nomark _)) pe_int pe_int)) pa_nil)) (pe_slice sl_list (pv 5) (po_some pe_int) po_none)) pa_nil))))))) pss_nil)
  (pss_one (ps_ret (pe_tup (pa_cons (pv 2) (pa_cons (pe_fn D_l_small hr (by decide) rfl (pa_cons (pv 0) (pa_cons (pe_un un_neg pe_int) (pa_cons pe_int pa_nil)))) pa_nil))))))))), ?_⟩
  refine ⟨_, rfl, j, 7, n, rfl, hj, by decide, by decide, by omega, fun way H1 hw b1 j1 => ?_⟩
  refine ⟨_, rfl, _, rfl, by decide, fun q hq => ⟨j, q, _, n + 1, rfl, j1.on (same_new hq), upd_same, j1.ne hq, by decide, by decide, by omega, fun x H2 hx b2 j2 => ?_⟩⟩
  obtain ⟨sg, rfl, hs⟩ : ∃ sg : Int, x = .int sg ∧ (sg = 1 ∨ sg = -1) := by
    simp only [List.mem_cons, List.not_mem_nil, or_false] at hx
    rcases hx with z | z | z
    · exact ⟨_, z, .inl rfl⟩
    · exact ⟨_, z, .inl rfl⟩
    · exact ⟨_, z, .inr rfl⟩
  have b12 : But j H H2 := b1.trans ((But.ofU hq).trans b2)
  clear hx
  have one : ∀ (am x : Int), (0 : Int) ≤ am → am ≤ 12 → -1 ≤ x → x ≤ 1 → (am * x).natAbs ≤ 12 := fun am x a0 a1 x0 x1 => by
    have := scale_abs a0 a1 x0 x1
    omega
  refine ⟨_, _, rfl, _, rfl, rfl, _, rfl, ?_⟩
  by_cases c0 : way = 0
  · rw [show decide (V.int (way : Int) = V.int 0) = true from decide_eq_true (by rw [c0]; rfl)]
    refine iteT ⟨_, rfl, by decide, fun l hl => ⟨sz2, fun x hx => ?_⟩⟩
    refine k x ⟨sg, 0, 0, 0, 0⟩ _ (b12.trans ((But.ofU hl).trans (But.ofU hx))) (((j2.on (same_new hl)).on (same_new hx)).mono (by omega)) ⟨l, upd_same, same_new hx _ _ upd_same⟩ (planOk_of hs (by decide) (by decide) (by decide) (by decide))
  rw [show decide (V.int (way : Int) = V.int 0) = false from decide_eq_false fun z => c0 (by injection z with z; omega)]
  refine iteF ⟨_, rfl, _, _, rfl, rfl, _, rfl, ?_⟩
  by_cases c1 : (way : Int) < 4
  · rw [decide_eq_true c1]
    refine iteT ⟨_, rfl, by decide, fun q2 hq2 => ⟨j, q2, _, n + 2, rfl, j2.on (same_new hq2), upd_same, j2.ne hq2, by decide, by decide, by omega, fun x H3 hx b3 j3 => ?_⟩⟩
    obtain ⟨am, rfl, a0, a1⟩ : ∃ am : Int, x = .int am ∧ 0 ≤ am ∧ am ≤ 12 := by
      simp only [List.mem_cons, List.not_mem_nil, or_false] at hx
      rcases hx with z | z | z | z | z | z | z | z | z | z <;> exact ⟨_, z, by decide, by decide⟩
    have b13 : But j H H3 := b12.trans ((But.ofU hq2).trans b3)
    clear hx
    refine ⟨_, rfl, _, rfl, _, rfl, j, n + 3, -1, 1, rfl, j3, by omega, by decide, by decide, by decide, by decide, fun l xs H4 b4 j4 e4 hl hb => ?_⟩
    refine ⟨l, rfl, ⟨_, SqL.of e4⟩, fun D hD => lc_scale e4 hl (by omega) (fun x hx => by have := hb x hx; omega) hD fun H5 S5 e5 => ?_⟩
    obtain ⟨a, b, c, d, rfl⟩ := four_of hl
    have ba := hb a (by simp)
    have bb := hb b (by simp)
    have bc := hb c (by simp)
    have bd := hb d (by simp)
    refine ⟨sz2, fun x hx => ?_⟩
    have oa := one am a a0 a1 ba.1 ba.2
    refine k x ⟨sg, am * a, am * b, am * c, am * d⟩ _ (b13.trans (b4.trans (But.of (S5.trans (same_new hx))))) ((j4.on (S5.trans (same_new hx))).mono (by omega)) ⟨D, upd_same, same_new hx _ _ e5⟩ (planOk_of hs (by omega) (one am b a0 a1 bb.1 bb.2) (one am c a0 a1 bc.1 bc.2) (one am d a0 a1 bd.1 bd.2))
  rw [decide_eq_false c1]
  refine iteF ⟨_, rfl, rfl, _, rfl, ?_⟩
  by_cases c2 : way = 4
  · rw [show decide (V.int (way : Int) = V.int 4) = true from decide_eq_true (by rw [c2]; rfl)]
    refine iteT ⟨_, rfl, by decide, fun q2 hq2 => ⟨j, q2, _, n + 2, rfl, j2.on (same_new hq2), upd_same, j2.ne hq2, by decide, by decide, by omega, fun x H3 hx b3 j3 => ?_⟩⟩
    obtain ⟨am, rfl, ha⟩ : ∃ am : Int, x = .int am ∧ (am = 4 ∨ am = 12) := by
      simp only [List.mem_cons, List.not_mem_nil, or_false] at hx
      rcases hx with z | z | z
      · exact ⟨_, z, .inl rfl⟩
      · exact ⟨_, z, .inl rfl⟩
      · exact ⟨_, z, .inr rfl⟩
    have b13 : But j H H3 := b12.trans ((But.ofU hq2).trans b3)
    clear hx
    have a0 : 0 ≤ am := by omega
    have a1 : am ≤ 12 := by omega
    refine ⟨_, rfl, _, rfl, j, n + 3, -1, 1, rfl, j3, by omega, by decide, by decide, by decide, by decide, fun l xs H4 b4 j4 e4 hl hb => ?_⟩
    refine ⟨l, rfl, ⟨_, SqL.of e4⟩, fun D hD => lc_scale e4 hl (by omega) (fun x hx => by have := hb x hx; omega) hD fun H5 S5 e5 => ?_⟩
    obtain ⟨a, b, c, d, rfl⟩ := four_of hl
    have ba := hb a (by simp)
    have bb := hb b (by simp)
    have bc := hb c (by simp)
    have bd := hb d (by simp)
    have oa := one am a a0 a1 ba.1 ba.2
    have ob := one am b a0 a1 bb.1 bb.2
    have oc := one am c a0 a1 bc.1 bc.2
    have od := one am d a0 a1 bd.1 bd.2
    clear bb bc bd hb
    have e5' : H5 D = some (.lst [.int (am * a), .int (am * b), .int (am * c), .int (am * d)]) := e5
    clear e5
    generalize am * a = ma at oa e5'
    generalize am * b = mb at ob e5'
    generalize am * c = mc at oc e5'
    generalize am * d = md at od e5'
    refine ⟨_, rfl, _, rfl, D, _, 0, _, rfl, rfl, SqL.of e5', rfl, ?_⟩
    rcases ha with rfl | rfl
    · refine ⟨_, rfl, rfl, _, rfl, iteT ⟨_, _, rfl, rfl, sz1, fun q hq => ?_⟩⟩
      refine ⟨_, rfl, _, rfl, D, _, rfl, SqL.of (same_new hq _ _ e5'), fun r hr2 => ?_⟩
      refine ⟨q, r, _, _, rfl, rfl, same_new hr2 _ _ upd_same, upd_same, (by decide : 1 + 3 ≤ sizeLine), fun w' hw => ⟨sz2, fun x hx => ?_⟩⟩
      have S6 := (((same_new hq).trans (same_new hr2)).trans (same_new hw)).trans (same_new (o := .tup [.int (-1), .ref w']) hx)
      exact k x ⟨-1, ma + 2, mb, mc, md⟩ _ (b13.trans (b4.trans (But.of (S5.trans S6)))) ((j4.on (S5.trans S6)).mono (by omega)) ⟨w', upd_same, same_new hx _ _ upd_same⟩ (planOk_of (.inr rfl) (by omega) ob oc od)
    · refine ⟨_, rfl, rfl, _, rfl, iteF ⟨_, _, rfl, rfl, sz1, fun q hq => ?_⟩⟩
      refine ⟨_, rfl, _, rfl, D, _, rfl, SqL.of (same_new hq _ _ e5'), fun r hr2 => ?_⟩
      refine ⟨q, r, _, _, rfl, rfl, same_new hr2 _ _ upd_same, upd_same, (by decide : 1 + 3 ≤ sizeLine), fun w' hw => ⟨sz2, fun x hx => ?_⟩⟩
      have S6 := (((same_new hq).trans (same_new hr2)).trans (same_new hw)).trans (same_new (o := .tup [.int (-1), .ref w']) hx)
      exact k x ⟨-1, ma + 6, mb, mc, md⟩ _ (b13.trans (b4.trans (But.of (S5.trans S6)))) ((j4.on (S5.trans S6)).mono (by omega)) ⟨w', upd_same, same_new hx _ _ upd_same⟩ (planOk_of (.inr rfl) (by omega) ob oc od)
  · rw [show decide (V.int (way : Int) = V.int 4) = false from decide_eq_false fun z => c2 (by injection z with z; omega)]
    refine iteF ⟨_, rfl, _, rfl, _, rfl, j, n + 2, -5, 5, rfl, j2, by omega, by decide, by decide, by decide, by decide, fun l xs H4 b4 j4 e4 hl hb => ?_⟩
    obtain ⟨a, b, c, d, rfl⟩ := four_of hl
    have ba := hb a (by simp)
    have bb := hb b (by simp)
    have bc := hb c (by simp)
    have bd := hb d (by simp)
    refine ⟨sz2, fun x hx => ?_⟩
    exact k x ⟨sg, a, b, c, d⟩ _ (b12.trans (b4.trans (But.ofU hx))) ((j4.on (same_new hx)).mono (by omega)) ⟨l, upd_same, same_new hx _ _ e4⟩ (planOk_of hs (by omega) (by omega) (by omega) (by omega))
theorem d_l_some_n (F : At K mg "_law_some_n" s_l_some_n) (B : Blt mg) (D_l_pull : Dn P w K mg base CX0 1 "_law_pull" ["_law_jug_here", "_law_top"] spPull) (D_l_one_of : Dn P w K mg base CX0 2 "_law_one_of" ["_law_jug_here", "_law_some"] spOneOf) : Dn P w K mg base CX0 3 "_law_some_n" ["_law_jug_here"] spSomeN := by
  refine F.ok sc_l_some_n (fun vs H Q E h => ?_) (fun _ _ _ _ _ _ us hl => match us, hl with | [_], _ => rfl) (fun f cdv A outer s H vs Q E hr h => ?_)
  · obtain ⟨_, _, rfl, _⟩ := h
    rfl
  obtain ⟨j, n, rfl, hj, hn, k⟩ := h
  refine ⟨_, (pss_cons (ps_set (i := 1) sc_l_some_n.nd rfl (.inl rfl) (pe_lst (pa_cons (pe_op op_add pe_int (pe_fn D_l_pull hr (by decide) rfl (pa_cons (pv 0) (pa_cons pe_int pa_nil)))) (pa_cons (pe_op op_add pe_int (pe_fn D_l_pull hr (by decide) rfl (pa_cons (pv 0) (pa_cons pe_int pa_nil)))) (pa_cons (pe_op op_pow pe_int pe_int) (pa_cons (pe_op op_sub (pe_op op_pow pe_int pe_int) (pe_fn D_l_pull hr (by decide) rfl (pa_cons (pv 0) (pa_cons pe_int pa_nil)))) (pa_cons (pe_op op_pow pe_int pe_int) (pa_cons (pe_op op_pow pe_int pe_int) pa_nil))))))))
  (pss_one (ps_ret (pe_fn D_l_one_of hr (by decide) rfl (pa_cons (pv 0) (pa_cons (pe_op op_cat (pv 1) (pe_lst (pa_cons (pe_op op_add pe_int (pe_fn D_l_pull hr (by decide) rfl (pa_cons (pv 0) (pa_cons (pe_op op_pow pe_int pe_int) pa_nil)))) (pa_cons (pe_op op_mulW (pe_op op_pow pe_int pe_int) pe_int) (pa_cons (pe_op op_add pe_int (pe_fn D_l_pull hr (by decide) rfl (pa_cons (pv 0) (pa_cons pe_int pa_nil)))) (pa_cons (pe_op op_mulW pe_int (pe_op op_pow pe_int pe_int)) pa_nil)))))) pa_nil)))))), ?_⟩
  have pw : ∀ i j : Nat, j ≤ 1000000 → i < 2 ^ 64 → CPow (i : Int) (j : Int) := fun i j h1 h2 => ⟨by omega, by omega, by rw [Int.natAbs_natCast]; exact h2⟩
  refine ⟨_, rfl, j, 12, n, rfl, hj, by decide, by decide, by omega, fun r1 H1 hr1 b1 j1 => ⟨_, _, rfl, rfl, ?_⟩⟩
  refine ⟨_, rfl, j, 60, n + 1, rfl, j1, by decide, by decide, by omega, fun r2 H2 hr2 b2 j2 => ⟨_, _, rfl, rfl, ?_⟩⟩
  refine ⟨_, _, rfl, rfl, pw 10 30 (by decide) (by decide), _, _, rfl, rfl, pw 10 30 (by decide) (by decide), ?_⟩
  refine ⟨_, rfl, j, 60, n + 2, rfl, j2, by decide, by decide, by omega, fun r3 H3 hr3 b3 j3 => ⟨_, _, rfl, rfl, ?_⟩⟩
  refine ⟨_, _, rfl, rfl, pw 2 60 (by decide) (by decide), _, _, rfl, rfl, pw 3 40 (by decide) (by decide), (by decide : 6 ≤ sizeLine), fun q hq => ?_⟩
  refine ⟨_, rfl, _, rfl, _, rfl, _, _, rfl, rfl, pw 10 9 (by decide) (by decide), ?_⟩
  have e9 : (10 : Int) ^ (9 : Int).toNat = ((1000000000 : Nat) : Int) := by decide +kernel
  have e30 : (10 : Int) ^ (30 : Int).toNat = 1000000000000000000000000000000 := by decide +kernel
  have e260 : (2 : Int) ^ (60 : Int).toNat = 1152921504606846976 := by decide +kernel
  have e340 : (3 : Int) ^ (40 : Int).toNat = 12157665459056928801 := by decide +kernel
  have e520 : (5 : Int) ^ (20 : Int).toNat = 95367431640625 := by decide +kernel
  have e119 : (11 : Int) ^ (9 : Int).toNat = 2357947691 := by decide +kernel
  refine ⟨j, 1000000000, n + 3, congrArg (fun z => [V.ref j, V.int z]) e9, j3.on (same_new hq), by decide, by decide, by omega, fun r4 H4 hr4 b4 j4 => ⟨_, _, rfl, rfl, ?_⟩⟩
  refine ⟨_, _, rfl, rfl, pw 5 20 (by decide) (by decide), _, _, rfl, rfl, wide_mul (a := 60) (b := 4) (by show ((5 : Int) ^ (20 : Int).toNat).natAbs < _; rw [e520]; decide) (by decide) (by decide) (by decide) (by decide), ?_⟩
  refine ⟨_, rfl, j, 6, n + 4, rfl, j4, by decide, by decide, by omega, fun r5 H5 hr5 b5 j5 => ⟨_, _, rfl, rfl, ?_⟩⟩
  refine ⟨_, _, rfl, rfl, pw 11 9 (by decide) (by decide), _, _, rfl, rfl, wide_mul (a := 4) (b := 60) (by decide) (by show ((11 : Int) ^ (9 : Int).toNat).natAbs < _; rw [e119]; decide) (by decide) (by decide) (by decide), (by decide : 4 ≤ sizeLine), fun q2 hq2 => ?_⟩
  have hqj := j3.ne hq
  refine ⟨q, q2, _, _, rfl, rfl, same_new hq2 _ _ (b5 _ _ hqj (b4 _ _ hqj upd_same)), upd_same, (by decide : 6 + 4 ≤ sizeLine), fun w' hw' => ?_⟩
  have j5' := (j5.on (same_new (o := .lst [V.int (1 + r4), .int (5 ^ (20 : Int).toNat * 7), .int (1 + r5), .int (4 * 11 ^ (9 : Int).toNat)]) hq2))
  refine ⟨j, w', _, n + 5, rfl, j5'.on (same_new hw'), upd_same, j5'.ne hw', (by decide : 1 ≤ 10), (by decide : 10 ≤ 1000), by omega, fun x H6 hx b6 j6 => ?_⟩
  have bb : But j H H6 := b1.trans (b2.trans (b3.trans ((But.ofU hq).trans (b4.trans (b5.trans ((But.ofU hq2).trans ((But.ofU hw').trans b6)))))))
  obtain ⟨z, rfl, z1, z2⟩ : ∃ z : Int, x = .int z ∧ 1 ≤ z ∧ z ≤ 1000000000000000000000000000000 := by
    dsimp only at hx
    rw [e30, e260, e340, e520, e119] at hx
    simp only [List.cons_append, List.nil_append, List.mem_cons, List.not_mem_nil, or_false] at hx
    rcases hx with z | z | z | z | z | z | z | z | z | z <;> exact ⟨_, z, by omega, by omega⟩
  have := k z.toNat H6 (by omega) (Nat.le_trans (show z.toNat ≤ 1000000000000000000000000000000 by omega) (by decide)) bb (j6.mono (by omega))
  rw [Int.toNat_of_nonneg (by omega)] at this
  exact this
end
end Pp
-- G7
namespace Pp
open PySem PySem.Spec PyProof.Rows L2
/-! facts that the jug has no part in: told of the heap without it -/
theorem But.wo {j : Addr} {H H' : Hp} (h : But j H H') : Same (wo j H) (wo j H') := fun b o e => by
  unfold Pp.wo at e ⊢
  split at e
  · cases e
  · rename_i c
    rw [if_neg c]
    exact h b o c e
theorem new_wo {j p : Addr} {H : Hp} {o : HO} (h : H p = none) : Same (wo j H) (wo j (L2.upd H p o)) := wo_mono (same_new h)
/-- a deed as the law holds it -/
def LDeed (H : Hp) (v : V) : Deed → Prop
  | .put A p => ∃ x a, v = .ref x ∧ H x = some (.lst [.str "put", .str A, .ref a]) ∧ LPlan H a p
  | .drop A => ∃ x, v = .ref x ∧ H x = some (.lst [.str "drop", .str A])
  | .wish w => ∃ x y, v = .ref x ∧ H x = some (.lst [.str "wish", .ref y]) ∧ WiAt H y w
  | .lift i => ∃ x, v = .ref x ∧ H x = some (.lst [.str "lift", .int (i : Int)])
theorem LDeed.on {H H' : Hp} (S : Same H H') {v : V} {d : Deed} (h : LDeed H v d) : LDeed H' v d := by
  cases d with
  | put A p =>
    obtain ⟨x, a, e, h1, h2⟩ := h
    exact ⟨x, a, e, S _ _ h1, h2.on S⟩
  | drop A =>
    obtain ⟨x, e, h1⟩ := h
    exact ⟨x, e, S _ _ h1⟩
  | wish w =>
    obtain ⟨x, y, e, h1, h2⟩ := h
    exact ⟨x, y, e, S _ _ h1, S _ _ h2⟩
  | lift i =>
    obtain ⟨x, e, h1⟩ := h
    exact ⟨x, e, S _ _ h1⟩
/-- a page as the law holds it -/
def LPage (H : Hp) (v : V) (pg : Page) : Prop := ∃ x d l, v = .ref x ∧ H x = some (.tup [.ref d, .ref l]) ∧ LDic H d pg.sh ∧ LWs H l pg.ws
theorem LPage.on {H H' : Hp} (S : Same H H') {v : V} {pg : Page} (h : LPage H v pg) : LPage H' v pg := by
  obtain ⟨x, d, l, e, h1, h2, h3⟩ := h
  exact ⟨x, d, l, e, S _ _ h1, h2.on S, h3.on S⟩
theorem wo_ne {j b : Addr} {H : Hp} {o : HO} (h : wo j H b = some o) : b ≠ j := by
  rintro rfl
  unfold Pp.wo at h
  rw [if_pos rfl] at h
  cases h
theorem LPlan.wo {n : Nat} {H : Hp} {j x : Addr} {p : Plan} (J : JugAt n H j) (h : LPlan H x p) : LPlan (wo j H) x p := by
  obtain ⟨l, h1, h2⟩ := h
  refine ⟨l, wo_at ?_ h1, wo_at (J.neL h2 (by show 4 ≠ 3; decide)) h2⟩
  rintro rfl
  obtain ⟨_, _, _, e, _⟩ := J
  rw [h1] at e
  cases e
theorem wo_new {j p : Addr} {H : Hp} {o : HO} (h : p ≠ j) : wo j (L2.upd H p o) p = some o := wo_at h upd_same
def titlesV : List V := [.str "a", .str "main", .str "zz"]
theorem title_of {x : V} (h : x ∈ titlesV) : ∃ A : Str, x = .str A ∧ Title A := by
  simp only [titlesV, List.mem_cons, List.not_mem_nil, or_false] at h
  rcases h with z | z | z <;> exact ⟨_, z, by unfold Title; decide +kernel⟩
abbrev s_l_new_wish : Stmt := top 71
theorem sc_l_new_wish : FnScope ["_law_jug_here", "_law_titles", "_law_word", "_law_title"] ["_law_jug_here", "_law_titles"] (defScope s_l_new_wish) := ⟨rfl, rfl, rfl, by decide +kernel, rfl, by decide +kernel, by decide +kernel⟩
abbrev N_l_new_wish : List Str := ["_law_jug_here", "_law_titles", "_law_word", "_law_title"]
def spNewWish : Sp := fun vs H Q _ => ∃ (j t : Addr) (n : Nat), vs = [.ref j, .ref t] ∧ JugAt n H j ∧ n + 100 < 10 ^ 9 ∧ wo j H t = some (.lst titlesV) ∧ ∀ (x : Addr) (wi : Wi) H', But j H H' → JugAt (n + 50) H' j → WiAt (wo j H') x wi → WiOk wi → Q (.ref x) H'
abbrev s_l_new_deed : Stmt := top 75
theorem sc_l_new_deed : FnScope ["_law_jug_here", "_law_page", "_law_titles", "_law_way"] ["_law_jug_here", "_law_page"] (defScope s_l_new_deed) := ⟨rfl, rfl, rfl, by decide +kernel, rfl, by decide +kernel, by decide +kernel⟩
abbrev N_l_new_deed : List Str := ["_law_jug_here", "_law_page", "_law_titles", "_law_way"]
def spNewDeed : Sp := fun vs H Q _ => ∃ (j : Addr) (v : V) (n : Nat) (pg : Page), vs = [.ref j, v] ∧ JugAt n H j ∧ n + 200 < 10 ^ 9 ∧ LPage (wo j H) v pg ∧ pg.ws.length < 10000 ∧ ∀ (u : V) (d : Deed) H', But j H H' → JugAt (n + 100) H' j → LDeed (wo j H') u d → DeedOk d → Q u H'
abbrev s_l_told_deed : Stmt := top 79
theorem sc_l_told_deed : FnScope ["_law_deed"] ["_law_deed"] (defScope s_l_told_deed) := ⟨rfl, rfl, rfl, by decide +kernel, rfl, by decide +kernel, by decide +kernel⟩
abbrev N_l_told_deed : List Str := ["_law_deed"]
def spTold : Sp := fun vs H Q _ => ∃ (v : V) (d : Deed), vs = [v] ∧ LDeed H v d ∧ DeedOk d ∧ ∀ u H', Same H H' → DeedAt H' u d → Q u H'
abbrev s_l_named : Stmt := top 73
theorem sc_l_named : FnScope ["_law_due"] ["_law_due"] (defScope s_l_named) := ⟨rfl, rfl, rfl, by decide +kernel, rfl, by decide +kernel, by decide +kernel⟩
abbrev N_l_named : List Str := ["_law_due"]
def spNamed : Sp := fun vs H Q _ => ∃ (x : Addr) (wi : Wi), vs = [.ref x] ∧ WiAt H x wi ∧ ∀ q H', Same H H' → H' q = some (.tup (wi.names.map V.str)) → Q (.ref q) H'
section
variable {P : Program} {w : World} {K : PySem.W.Frag} {mg : Str → Option Value} {base : Heap}
theorem d_l_new_wish (F : At K mg "_law_new_wish" s_l_new_wish) (B : Blt mg) (D_l_one_of : Dn P w K mg base CX0 2 "_law_one_of" ["_law_jug_here", "_law_some"] spOneOf) (D_l_some_n : Dn P w K mg base CX0 3 "_law_some_n" ["_law_jug_here"] spSomeN) : Dn P w K mg base CX0 4 "_law_new_wish" ["_law_jug_here", "_law_titles"] spNewWish := by
  refine F.ok sc_l_new_wish (fun vs H Q E h => ?_) (fun _ _ _ _ _ _ us hl => match us, hl with | [_, _], _ => rfl) (fun f cdv A outer s H vs Q E hr h => ?_)
  · obtain ⟨_, _, _, rfl, _⟩ := h
    rfl
  obtain ⟨j, t, n, rfl, hj, hn, ht, k⟩ := h
  refine ⟨_, (pss_cons (ps_par (i := 2) (j := 3) rfl sc_l_new_wish.nd rfl rfl (by decide) rfl rfl (pa_cons (pe_fn D_l_one_of hr (by decide) rfl (pa_cons (pv 0) (pa_cons (pe_lst (pa_cons pe_str (pa_cons pe_str (pa_cons pe_str (pa_cons pe_str (pa_cons pe_str (pa_cons pe_str pa_nil))))))) pa_nil))) (pa_cons (pe_fn D_l_one_of hr (by decide) rfl (pa_cons (pv 0) (pa_cons (pv 1) pa_nil))) pa_nil)) (by rfl))
  (pss_cons (ps_if (pt_cmpR op_eq (pv 2) pe_str (nomark _)) (pss_one (ps_ret (pe_tup (pa_cons (pv 2) (pa_cons (pv 3) pa_nil))))) pss_nil)
  (pss_one (ps_ret (pe_tup (pa_cons (pv 2) (pa_cons (pv 3) (pa_cons (pe_ifExp (pt_cmpR op_eq (pv 2) pe_str (nomark _)) (pe_fn D_l_one_of hr (by decide) rfl (pa_cons (pv 0) (pa_cons (pv 1) pa_nil))) (pe_fn D_l_some_n hr (by decide) rfl (pa_cons (pv 0) pa_nil))) pa_nil)))))))), ?_⟩
  have htj := wo_ne ht
  have t1 : 1 ≤ titlesV.length := by decide
  have t2 : titlesV.length ≤ 1000 := by decide
  refine ⟨_, rfl, by decide, fun q hq => ⟨j, q, _, n, rfl, hj.on (same_new hq), upd_same, hj.ne hq, by decide, by decide, by omega, fun y H1 hy b1 j1 => ?_⟩⟩
  have S1 : Same (wo j H) (wo j H1) := (new_wo hq).trans b1.wo
  have B1 : But j H H1 := (But.ofU hq).trans b1
  refine ⟨_, rfl, _, rfl, j, t, titlesV, n + 1, rfl, j1, wo_same _ _ (S1 _ _ ht), htj, t1, t2, by omega, fun z H2 hz b2 j2 => ?_⟩
  obtain ⟨A, rfl, hA⟩ := title_of hz
  have S2 := S1.trans b2.wo
  have B2 := B1.trans b2
  have hJ : ∀ {q : Addr} {o : HO} {n' : Nat} {H' : Hp}, JugAt n' H' j → H' q = none → JugAt n' (L2.upd H' q o) j := fun J hq => J.on (same_new hq)
  have hy' : (∃ b : Bool, y = .str (if b then "splits" else "whole")) ∨ y = .str "always" ∨ y = .str "alike" := by
    simp only [List.mem_cons, List.not_mem_nil, or_false] at hy
    rcases hy with z | z | z | z | z | z
    · exact .inl ⟨true, z⟩
    · exact .inl ⟨true, z⟩
    · exact .inl ⟨false, z⟩
    · exact .inl ⟨false, z⟩
    · exact .inr (.inl z)
    · exact .inr (.inr z)
  clear hy
  rcases hy' with ⟨b, rfl⟩ | rfl | rfl
  · refine ⟨_, _, rfl, _, rfl, rfl, _, rfl, ?_⟩
    rw [show decide (V.str (if b = true then "splits" else "whole") = V.str "always") = false by cases b <;> decide +kernel]
    refine iteF ⟨_, rfl, _, rfl, _, rfl, rfl, _, rfl, ?_⟩
    rw [show decide (V.str (if b = true then "splits" else "whole") = V.str "alike") = false by cases b <;> decide +kernel]
    refine iteF ⟨_, rfl, j, n + 2, rfl, j2, by omega, fun r H3 r1 r2 b3 j3 => ⟨sz3, fun u hu => ?_⟩⟩
    exact k _ (.spl b A r) _ (B2.trans (b3.trans (But.ofU hu))) ((hJ j3 hu).mono (by omega)) (wo_new (j3.ne hu)) ⟨hA, r1, r2⟩
  · refine ⟨_, _, rfl, _, rfl, rfl, _, rfl, ?_⟩
    rw [show decide (V.str "always" = V.str "always") = true by decide +kernel]
    refine iteT ⟨_, rfl, _, rfl, sz2, fun u hu => ?_⟩
    exact k _ (.alw A) _ (B2.trans (But.ofU hu)) ((hJ j2 hu).mono (by omega)) (wo_new (j2.ne hu)) hA
  · refine ⟨_, _, rfl, _, rfl, rfl, _, rfl, ?_⟩
    rw [show decide (V.str "alike" = V.str "always") = false by decide +kernel]
    refine iteF ⟨_, rfl, _, rfl, _, rfl, rfl, _, rfl, ?_⟩
    rw [show decide (V.str "alike" = V.str "alike") = true by decide +kernel]
    refine iteT ⟨_, rfl, _, rfl, j, t, titlesV, n + 2, rfl, j2, wo_same _ _ (S2 _ _ ht), htj, t1, t2, by omega, fun z H3 hz b3 j3 => ?_⟩
    obtain ⟨A', rfl, hA'⟩ := title_of hz
    refine ⟨sz3, fun u hu => ?_⟩
    exact k _ (.alike A A') _ (B2.trans (b3.trans (But.ofU hu))) ((hJ j3 hu).mono (by omega)) (wo_new (j3.ne hu)) ⟨hA, hA'⟩
theorem d_l_new_deed (F : At K mg "_law_new_deed" s_l_new_deed) (B : Blt mg) (D_l_pull : Dn P w K mg base CX0 1 "_law_pull" ["_law_jug_here", "_law_top"] spPull) (D_l_one_of : Dn P w K mg base CX0 2 "_law_one_of" ["_law_jug_here", "_law_some"] spOneOf) (D_l_new_wish : Dn P w K mg base CX0 4 "_law_new_wish" ["_law_jug_here", "_law_titles"] spNewWish) (D_l_plan : Dn P w K mg base CX0 4 "_law_plan" ["_law_jug_here"] spPlan) : Dn P w K mg base CX0 5 "_law_new_deed" ["_law_jug_here", "_law_page"] spNewDeed := by
  refine F.ok sc_l_new_deed (fun vs H Q E h => ?_) (fun _ _ _ _ _ _ us hl => match us, hl with | [_, _], _ => rfl) (fun f cdv A outer s H vs Q E hr h => ?_)
  · obtain ⟨_, _, _, _, rfl, _⟩ := h
    rfl
  obtain ⟨j, v, n, pg, rfl, hj, hn, ⟨x, d, l, rfl, hx, hd, hl⟩, hlen, k⟩ := h
  refine ⟨_, (pss_cons (ps_par (i := 2) (j := 3) rfl sc_l_new_deed.nd rfl rfl (by decide) rfl rfl (pa_cons (pe_lst (pa_cons pe_str (pa_cons pe_str (pa_cons pe_str pa_nil)))) (pa_cons (pe_fn D_l_pull hr (by decide) rfl (pa_cons (pv 0) (pa_cons pe_int pa_nil))) pa_nil)) (by rfl))
  (pss_cons (ps_if (pt_cmpR op_lt (pv 3) pe_int (nomark _)) (pss_one (ps_ret (pe_lst (pa_cons pe_str (pa_cons (pe_fn D_l_new_wish hr (by decide) rfl (pa_cons (pv 0) (pa_cons (pv 2) pa_nil))) pa_nil))))) pss_nil)
  (pss_cons (ps_if (pt_cmpR op_eq (pv 3) pe_int (nomark _)) (pss_one (ps_ret (pe_lst (pa_cons pe_str (pa_cons (pe_fn D_l_pull hr (by decide) rfl (pa_cons (pv 0) (pa_cons (pe_op op_add (pe_callB (id := "len") call_len_seq (by rfl) B.len (by decide +kernel) (pa_cons (pe_ix (r := rIxT K) ix_tup (pv 1) pe_int (fun _ _ => rfl)) pa_nil)) pe_int) pa_nil))) pa_nil))))) pss_nil)
  (pss_cons (ps_if (pt_cmpR op_eq (pv 3) pe_int (nomark _)) (pss_one (ps_ret (pe_lst (pa_cons pe_str (pa_cons (pe_fn D_l_one_of hr (by decide) rfl (pa_cons (pv 0) (pa_cons (pv 2) pa_nil))) pa_nil))))) pss_nil)
  (pss_one (ps_ret (pe_lst (pa_cons pe_str (pa_cons (pe_fn D_l_one_of hr (by decide) rfl (pa_cons (pv 0) (pa_cons (pv 2) pa_nil))) (pa_cons (pe_fn D_l_plan hr (by decide) rfl (pa_cons (pv 0) pa_nil)) pa_nil)))))))))), ?_⟩
  have hJ : ∀ {q : Addr} {o : HO} {n' : Nat} {H' : Hp}, JugAt n' H' j → H' q = none → JugAt n' (L2.upd H' q o) j := fun J hq => J.on (same_new hq)
  refine ⟨sz3, fun t ht => ?_⟩
  have htj := hj.ne ht
  refine ⟨_, rfl, j, 8, n, rfl, hJ hj ht, by decide, by decide, by omega, fun way H1 hw b1 j1 => ?_⟩
  have S1 : Same (wo j H) (wo j H1) := (new_wo ht).trans b1.wo
  have B1 : But j H H1 := (But.ofU ht).trans b1
  have ht1 : wo j H1 t = some (.lst titlesV) := b1.wo _ _ (wo_new htj)
  refine ⟨_, _, rfl, _, rfl, _, _, rfl, rfl, _, rfl, ?_⟩
  by_cases c0 : (way : Int) < 3
  · rw [decide_eq_true c0]
    refine iteT ⟨_, rfl, _, rfl, j, t, n + 1, rfl, j1, by omega, ht1, fun y wi H2 b2 j2 h2 ok => ⟨sz2, fun u hu => ?_⟩⟩
    exact k _ (.wish wi) _ (B1.trans (b2.trans (But.ofU hu))) ((hJ j2 hu).mono (by omega)) ⟨u, y, rfl, wo_new (j2.ne hu), new_wo hu _ _ h2⟩ ok
  rw [decide_eq_false c0]
  refine iteF ⟨_, rfl, rfl, _, rfl, ?_⟩
  by_cases c1 : way = 3
  · rw [show decide (V.int (way : Int) = V.int 3) = true from decide_eq_true (by rw [c1]; rfl)]
    obtain ⟨as, hl1, pw⟩ := hl
    have ln : (as.map V.ref).length = pg.ws.length := by rw [List.length_map, pw.len]
    refine iteT ⟨_, rfl, _, rfl, x, _, 1, _, rfl, rfl, SqT.of (wo_same _ _ (S1 _ _ hx)), rfl, l, _, rfl, .inl (SqL.of (wo_same _ _ (S1 _ _ hl1))), _, _, rfl, rfl, ?_⟩
    refine ⟨j, pg.ws.length + 1, n + 1, by rw [ln]; rfl, j1, by omega, by omega, by omega, fun r H2 hr2 b2 j2 => ⟨sz2, fun u hu => ?_⟩⟩
    exact k _ (.lift r) _ (B1.trans (b2.trans (But.ofU hu))) ((hJ j2 hu).mono (by omega)) ⟨u, rfl, wo_new (j2.ne hu)⟩ (show r < 10000 by omega)
  rw [show decide (V.int (way : Int) = V.int 3) = false from decide_eq_false fun z => c1 (by injection z with z; omega)]
  refine iteF ⟨_, rfl, rfl, _, rfl, ?_⟩
  have one : ∀ (R : V → Hp → Prop), (∀ (A : Str) H2, Title A → But j H1 H2 → JugAt (n + 2) H2 j → R (.str A) H2) → spOneOf [.ref j, .ref t] H1 R E0 := fun R hR => by
    refine ⟨j, t, titlesV, n + 1, rfl, j1, wo_same _ _ ht1, htj, by decide, by decide, by omega, fun y H2 hy b2 j2 => ?_⟩
    obtain ⟨A, rfl, hA⟩ := title_of hy
    exact hR A H2 hA b2 j2
  by_cases c2 : way = 4
  · rw [show decide (V.int (way : Int) = V.int 4) = true from decide_eq_true (by rw [c2]; rfl)]
    refine iteT ⟨_, rfl, _, rfl, one _ fun A H2 hA b2 j2 => ⟨sz2, fun u hu => ?_⟩⟩
    exact k _ (.drop A) _ (B1.trans (b2.trans (But.ofU hu))) ((hJ j2 hu).mono (by omega)) ⟨u, rfl, wo_new (j2.ne hu)⟩ hA
  rw [show decide (V.int (way : Int) = V.int 4) = false from decide_eq_false fun z => c2 (by injection z with z; omega)]
  refine iteF ⟨_, rfl, _, rfl, one _ fun A H2 hA b2 j2 => ?_⟩
  refine ⟨_, rfl, j, n + 2, rfl, j2, by omega, fun y p H3 b3 j3 hp okp => ⟨sz3, fun u hu => ?_⟩⟩
  exact k _ (.put A p) _ (B1.trans (b2.trans (b3.trans (But.ofU hu)))) ((hJ j3 hu).mono (by omega)) ⟨u, y, rfl, wo_new (j3.ne hu), (hp.wo j3).on (new_wo hu)⟩ ⟨hA, okp⟩
theorem d_l_told_deed (F : At K mg "_law_told_deed" s_l_told_deed) (B : Blt mg) (D_l_pair : Dn P w K mg base CX0 1 "_law_pair" ["_law_sign", "_law_row"] spPair) : Dn P w K mg base CX0 2 "_law_told_deed" ["_law_deed"] spTold := by
  refine F.ok sc_l_told_deed (fun vs H Q E h => ?_) (fun _ _ _ _ _ _ us hl => match us, hl with | [_], _ => rfl) (fun f cdv A outer s H vs Q E hr h => ?_)
  · obtain ⟨_, _, rfl, _⟩ := h
    rfl
  obtain ⟨v, d, rfl, hd, ok, k⟩ := h
  refine ⟨_, (pss_cons (ps_if (pt_cmpR op_eq (pe_ix (r := rIxL K) ix_list (pv 0) pe_int (fun _ _ => rfl)) pe_str (nomark _)) (pss_one (ps_ret (pe_tup (pa_cons pe_str (pa_cons (pe_ix (r := rIxL K) ix_list (pv 0) pe_int (fun _ _ => rfl)) (pa_cons (pe_fn D_l_pair hr (by decide) rfl (pa_cons (pe_ix (r := rIxT K) ix_tup (pe_ix (r := rIxL K) ix_list (pv 0) pe_int (fun _ _ => rfl)) pe_int (fun _ _ => rfl)) (pa_cons (pe_ix (r := rIxT K) ix_tup (pe_ix (r := rIxL K) ix_list (pv 0) pe_int (fun _ _ => rfl)) pe_int (fun _ _ => rfl)) pa_nil))) pa_nil)))))) pss_nil)
  (pss_one (ps_ret (pe_callTy call_tuple_of (by rfl) B.tuple (by decide +kernel) (pa_cons (pv 0) pa_nil))))), ?_⟩
  cases d with
  | put A p =>
    obtain ⟨x, a, rfl, h1, l, h2, h3⟩ := hd
    refine ⟨_, rfl, x, _, 0, _, rfl, rfl, SqL.of h1, rfl, rfl, _, rfl, iteT ?_⟩
    refine ⟨_, rfl, x, _, 1, _, rfl, rfl, SqL.of h1, rfl, ?_⟩
    refine ⟨_, rfl, x, _, 2, _, rfl, rfl, SqL.of h1, rfl, a, _, 0, _, rfl, rfl, SqT.of h2, rfl, ?_⟩
    refine ⟨_, rfl, x, _, 2, _, rfl, rfl, SqL.of h1, rfl, a, _, 1, _, rfl, rfl, SqT.of h2, rfl, ?_⟩
    refine ⟨l, p, rfl, h3, ok.2.w, fun c H1 S1 hc => ⟨sz3, fun u hu => k _ _ (S1.trans (same_new hu)) ⟨u, c, rfl, upd_same, same_new hu _ _ hc⟩⟩⟩
  | drop A =>
    obtain ⟨x, rfl, h1⟩ := hd
    refine ⟨_, rfl, x, _, 0, _, rfl, rfl, SqL.of h1, rfl, rfl, _, rfl, iteF ?_⟩
    exact ⟨_, rfl, x, _, rfl, .inl ⟨SqL.of h1, fun u hu => k _ _ (same_new hu) ⟨u, rfl, upd_same⟩⟩⟩
  | wish wi =>
    obtain ⟨x, y, rfl, h1, h2⟩ := hd
    refine ⟨_, rfl, x, _, 0, _, rfl, rfl, SqL.of h1, rfl, rfl, _, rfl, iteF ?_⟩
    exact ⟨_, rfl, x, _, rfl, .inl ⟨SqL.of h1, fun u hu => k _ _ (same_new hu) ⟨u, y, rfl, upd_same, same_new hu _ _ h2⟩⟩⟩
  | lift i =>
    obtain ⟨x, rfl, h1⟩ := hd
    refine ⟨_, rfl, x, _, 0, _, rfl, rfl, SqL.of h1, rfl, rfl, _, rfl, iteF ?_⟩
    exact ⟨_, rfl, x, _, rfl, .inl ⟨SqL.of h1, fun u hu => k _ _ (same_new hu) ⟨u, rfl, upd_same⟩⟩⟩
theorem d_l_named (F : At K mg "_law_named" s_l_named) (B : Blt mg) : Dn P w K mg base CX0 1 "_law_named" ["_law_due"] spNamed := by
  refine F.ok sc_l_named (fun vs H Q E h => ?_) (fun _ _ _ _ _ _ us hl => match us, hl with | [_], _ => rfl) (fun f cdv A outer s H vs Q E hr h => ?_)
  · obtain ⟨_, _, rfl, _⟩ := h
    rfl
  obtain ⟨x, wi, rfl, hx, hR⟩ := h
  refine ⟨_, (pss_one (ps_ret (pe_ifExp (pt_cmpR op_eq (pe_ix (r := rIxT K) ix_tup (pv 0) pe_int (fun _ _ => rfl)) pe_str (nomark _)) (pe_slice sl_tupA (pv 0) (po_some pe_int) (po_some pe_int)) (pe_slice sl_tupA (pv 0) (po_some pe_int) (po_some pe_int))))), ?_⟩
  cases wi with
  | spl b A n =>
    refine ⟨_, rfl, x, _, 0, _, rfl, rfl, SqT.of hx, rfl, rfl, _, rfl, ?_⟩
    rw [show decide (V.str (if b = true then "splits" else "whole") = V.str "alike") = false by cases b <;> decide +kernel]
    exact iteF ⟨_, rfl, _, rfl, _, rfl, sl_of hx hR⟩
  | alw A =>
    refine ⟨_, rfl, x, _, 0, _, rfl, rfl, SqT.of hx, rfl, rfl, _, rfl, ?_⟩
    rw [show decide (V.str "always" = V.str "alike") = false by decide +kernel]
    exact iteF ⟨_, rfl, _, rfl, _, rfl, sl_of hx hR⟩
  | alike A B =>
    refine ⟨_, rfl, x, _, 0, _, rfl, rfl, SqT.of hx, rfl, rfl, _, rfl, ?_⟩
    rw [show decide (V.str "alike" = V.str "alike") = true by decide +kernel]
    exact iteT ⟨_, rfl, _, rfl, _, rfl, sl_of hx hR⟩
end
end Pp
-- G8a
namespace Pp
open PySem PySem.Spec PyProof.Rows L2
/-- .. with the list that holds its wishes -/
def LPageL (H : Hp) (v : V) (pg : Page) (l : Addr) : Prop := ∃ x d, v = .ref x ∧ H x = some (.tup [.ref d, .ref l]) ∧ LDic H d pg.sh ∧ LWs H l pg.ws
theorem LPageL.pg {H : Hp} {v : V} {pg : Page} {l : Addr} (h : LPageL H v pg l) : LPage H v pg := by
  obtain ⟨x, d, e, h1, h2, h3⟩ := h
  exact ⟨x, d, l, e, h1, h2, h3⟩
theorem LPageL.on {H H' : Hp} (S : Same H H') {v : V} {pg : Page} {l : Addr} (h : LPageL H v pg l) : LPageL H' v pg l := by
  obtain ⟨x, d, e, h1, h2, h3⟩ := h
  exact ⟨x, d, e, S _ _ h1, h2.on S, h3.on S⟩
/-- a list of addresses that changes, other than the one that holds the wishes -/
theorem LPageL.but {H H' : Hp} {v : V} {pg : Page} {l c : Addr} {xs : List V} (B : But c H H') (hc : H c = some (.lst xs)) (hx : ∀ y ∈ xs, ∃ a, y = V.ref a) (hl : l ≠ c) (h : LPageL H v pg l) : LPageL H' v pg l := by
  obtain ⟨x, d, e, h1, ⟨kvs, h2, h3⟩, as, h4, h5⟩ := h
  have nt : ∀ {b : Addr} {ys : List V}, H b = some (.tup ys) → b ≠ c := fun hb z => by rw [z, hc] at hb; cases hb
  refine ⟨x, d, e, B _ _ (nt h1) h1, ⟨kvs, B _ _ (fun z => by rw [z, hc] at h2; cases h2) h2, h3.imp fun p v ⟨a, e, r, g1, g2⟩ => ⟨a, e, r, B _ _ (nt g1) g1, B _ _ (fun z => ?_) g2⟩⟩, as, B _ _ hl h4, h5.imp fun a w g => B _ _ (nt g) g⟩
  have g3 : H c = some (.lst [.int p.a, .int p.b, .int p.c, .int p.d]) := by rw [← z]; exact g2
  rw [hc] at g3
  injection g3 with g3
  injection g3 with g3
  obtain ⟨a', ea⟩ := hx (.int p.a) (by rw [g3]; simp)
  cases ea
def keyStr : Key → Str
  | .inr A => A
  | .inl _ => ""
theorem Src.keys {H0 : Hp} {d : Addr} {o : Obj} {kvs : List (Key × V)} (h : H0 d = some (.frz o (.dK kvs))) : Src (Itk d o kvs) H0 kvs.length fun i x => ∃ k v, kvs[i]? = some (k, v) ∧ x = kV k where
  go := fun H i S hi => ⟨S _ _ h, hi⟩
  stop := fun H i S hi => ⟨S _ _ h, hi⟩
  yld := fun H i x H' S hi q => q
theorem paired_imp {α β : Type} {F G : α → β → Prop} (f : ∀ a b, F a b → G a b) : ∀ {l : List α} {m : List β}, Paired F l m → Paired G l m
  | _, _, .nil => .nil
  | _, _, .cons h t => .cons (f _ _ h) (paired_imp f t)
/-- [(k, d[k]) for k in d if ..] over a dict that stands locked -/
theorem lc_pairs {σ : L2.St} {vs : List Nat} {tt : TT} {te : TE} {Qd : Hp → Prop} {dd D : Addr} {od : Obj} {kvs : List (Key × V)} {j : Nat} {H1 : Hp} (f : Str → Bool) (hnf : H1 dd = some (.frz od (.dK kvs))) (hD : H1 D = none) (hn : kvs.length < 100000)
    (hk : ∀ (i : Nat) (k : Key) (v : V), kvs[i]? = some (k, v) → ∃ A, k = Sum.inr A ∧ valV kvs (Sum.inr A : Key) = some v)
    (hw : ∀ x, wipe ((wipe σ vs).set j (some x)) vs = wipe σ vs)
    (hs : ∀ A v H2 (Qe : V → Hp → Prop) (Qn : Hp → Prop), Same H1 H2 → valV kvs (Sum.inr A : Key) = some v → (if f A = true then (∀ T, H2 T = none → Qe (.ref T) (L2.upd H2 T (.tup [.str A, v]))) else Qn H2) →
      tt ((wipe σ vs).set j (some (.str A))) H2 fun b H3 => if b = true then te ((wipe σ vs).set j (some (.str A))) H3 Qe else Qn H3)
    (hd : ∀ (ps : List Addr) H', Same H1 H' → H' D = some (.lst (ps.map V.ref)) → Paired (fun p (kv : Key × V) => H' p = some (.tup [kV kv.1, kv.2])) ps (kvs.filter fun (kv : Key × V) => f (keyStr kv.1)) → Qd H') :
    ∃ W : Nat → Nat → Hp → Prop, (∃ m, W 0 m (L2.upd H1 D (.lst []))) ∧ ∀ i m H, W i m H →
      ((Itk dd od kvs).stop i H ∧ Qd H) ∨ ((Itk dd od kvs).go i H ∧ ∃ Nx : Hp → Prop, (∀ H', Nx H' → ∃ m', m' < m ∧ W (i + 1) m' H') ∧ ∀ x H', (Itk dd od kvs).yld i H x H' → gName j x (wipe σ vs) H' fun σ2 H2 => wipe σ2 vs = wipe σ vs ∧ tt σ2 H2 fun b H3 =>
        if b = true then te σ2 H3 fun y H4 => ∃ acc, H4 D = some (.lst acc) ∧ acc.length < sizeLine ∧ Nx (L2.upd H4 D (.lst (acc ++ [y]))) else Nx H3) := by
  refine lc_go (J := Itk dd od kvs) (n := kvs.length) (j := j) (Src.keys hnf) hD hn hw (fun i ys G => ∃ ps : List Addr, ys = ps.map V.ref ∧ Paired (fun p (kv : Key × V) => G p = some (.tup [kV kv.1, kv.2])) ps ((kvs.take i).filter fun (kv : Key × V) => f (keyStr kv.1))) ⟨[], rfl, .nil⟩ (fun i ys G G' S ⟨ps, e, h⟩ => ⟨ps, e, paired_imp (fun a b g => S _ _ g) h⟩) ?_ ?_
  · rintro i y ys H2 hi ⟨k, v, e, rfl⟩ _ S2 hys ⟨ps, rfl, hp⟩ Qe Qn ke kn
    obtain ⟨A, rfl, hv⟩ := hk i k v e
    have ft : (kvs.take (i + 1)).filter (fun (kv : Key × V) => f (keyStr kv.1)) = (kvs.take i).filter (fun (kv : Key × V) => f (keyStr kv.1)) ++ (if f A = true then [((Sum.inr A : Key), v)] else []) := filter_take (fun kv : Key × V => f (keyStr kv.1)) kvs i _ e
    refine hs A v H2 Qe Qn S2 hv ?_
    by_cases c : f A = true
    · rw [if_pos c]
      intro T hT
      refine ke (.ref T) _ (same_new hT) ⟨ps ++ [T], by rw [List.map_append]; rfl, ?_⟩
      rw [ft, if_pos c]
      refine Paired.snoc (paired_imp (fun a b g => wo_mono (same_new hT) _ _ g) hp) ?_
      exact wo_at (fun z => by rw [z, hys] at hT; cases hT) upd_same
    · rw [if_neg c]
      refine kn _ (Same.refl _) ⟨ps, rfl, ?_⟩
      rw [ft, if_neg c, List.append_nil]
      exact hp
  · rintro ys H2 S2 hys _ ⟨ps, rfl, hp⟩
    rw [List.take_length] at hp
    exact hd ps H2 S2 hys hp
theorem paired_len {α β : Type} {F : α → β → Prop} : ∀ {l : List α} {m : List β}, Paired F l m → l.length = m.length
  | _, _, .nil => rfl
  | _, _, .cons _ t => congrArg (· + 1) (paired_len t)
theorem Rel2.filter {R : Plan → V → Prop} (f : Str → Bool) : ∀ {sh : Shelf} {kvs : List (Key × V)}, Rel2 R sh kvs → Rel2 R (sh.filter fun q => f q.1) (kvs.filter fun (kv : Key × V) => f (keyStr kv.1))
  | _, _, .nil => .nil
  | _, _, .cons (x := x) (p := p) (v := v) (sh := sh) (kvs := kvs) h t => by
    have ih := t.filter f
    by_cases c : f x = true
    · rw [List.filter_cons_of_pos (l := sh) (p := fun (q : Str × Plan) => f q.1) (a := (x, p)) c, List.filter_cons_of_pos (l := kvs) (p := fun (kv : Key × V) => f (keyStr kv.1)) (a := (Sum.inr x, v)) c]
      exact .cons h ih
    · rw [List.filter_cons_of_neg (l := sh) (p := fun (q : Str × Plan) => f q.1) (a := (x, p)) c, List.filter_cons_of_neg (l := kvs) (p := fun (kv : Key × V) => f (keyStr kv.1)) (a := (Sum.inr x, v)) c]
      exact ih
theorem merge_rel {R : Plan → V → Prop} : ∀ {sh0 : Shelf} {acc : List (Key × V)} {sh : Shelf} {kvs : List (Key × V)}, Rel2 R sh0 acc → Rel2 R sh kvs → ((sh0 ++ sh).map (·.1)).Nodup → Rel2 R (sh0 ++ sh) (mergeK acc kvs)
  | sh0, acc, _, _, h0, .nil, _ => by
    rw [List.append_nil]
    exact h0
  | sh0, acc, _, _, h0, .cons (x := x) (p := p) (v := v) (sh := sh) (kvs := kvs) h t, hn => by
    have e : sh0 ++ (x, p) :: sh = (sh0 ++ [(x, p)]) ++ sh := by simp
    rw [e] at hn ⊢
    have hx : ∀ q ∈ sh0, q.1 ≠ x := fun q hq z => by
      rw [List.map_append, List.map_append, List.nodup_append, List.nodup_append] at hn
      exact hn.1.2.2 q.1 (List.mem_map.mpr ⟨q, hq, rfl⟩) x (by simp) z
    show Rel2 R _ (mergeK (putK acc (Sum.inr x) v) kvs)
    exact merge_rel (put_new h0 h hx) t hn
theorem merge_put {R : Plan → V → Prop} {sh : Shelf} {kvs : List (Key × V)} {A : Str} {p : Plan} {v : V} (h : Rel2 R sh kvs) (hn : (sh.map (·.1)).Nodup) (hv : R p v) : Rel2 R (putSh sh A p) (mergeK [] (kvs ++ [((Sum.inr A : Key), v)])) := by
  have h1 := merge_rel (sh0 := []) (acc := []) .nil h hn
  unfold mergeK at h1 ⊢
  rw [List.foldl_append]
  exact Rel2.put hv h1
theorem pairs_sq {K : PySem.W.Frag} {H : Hp} : ∀ {ps : List Addr} {kvs : List (Key × V)}, Paired (fun p (kv : Key × V) => H p = some (.tup [kV kv.1, kv.2])) ps kvs → Paired (fun p (kv : Key × V) => SqT K H p [kV kv.1, kv.2]) ps kvs := fun h => paired_imp (fun a b g => SqT.of g) h
theorem rel_vals {R : Plan → V → Prop} {sh : Shelf} {kvs : List (Key × V)} (r : Rel2 R sh kvs) (hn : (sh.map (·.1)).Nodup)   : ∀ (i : Nat) (k : Key) (v : V), kvs[i]? = some (k, v) → ∃ A, k = Sum.inr A ∧ valV kvs (Sum.inr A : Key) = some v := by
  intro i k v e
  obtain ⟨A, p, hs', rfl, hR⟩ := rel_get1 r e
  refine ⟨A, rfl, ?_⟩
  have e1 : (kvs.map (·.1)).Nodup := by
    rw [r.keys]
    exact (List.pairwise_map.mpr (List.Pairwise.imp (fun h z => h (inr_eq.mp z)) hn))
  clear hs' hR r hn
  induction kvs generalizing i with
  | nil => simp at e
  | cons a l ih =>
    rw [List.map_cons, List.nodup_cons] at e1
    cases i with
    | zero =>
      have := Option.some.inj e
      subst this
      exact valV_pos rfl
    | succ i =>
      have e' : l[i]? = some ((Sum.inr A : Key), v) := e
      have hne : a.1 ≠ (Sum.inr A : Key) := fun z => e1.1 (List.mem_map.mpr ⟨_, List.mem_of_getElem? e', z.symm⟩)
      have := ih i e' e1.2
      unfold valV at this ⊢
      rw [List.find?_cons, decide_eq_false hne]
      exact this
end Pp
-- G8
namespace Pp
open PySem PySem.Spec PyProof.Rows L2
theorem CallR.or {X : Cx} {f : Value} {R1 R2 : List V → Hp → VK → Prop} (h1 : CallR X f R1) (h2 : CallR X f R2) : CallR X f (fun xs H Q => R1 xs H Q ∨ R2 xs H Q) :=
  fun pins s σ H xs us Q I r q => q.elim (fun q => h1 pins s σ H xs us Q I r q) (fun q => h2 pins s σ H xs us Q I r q)
theorem op_in_seqK {X : Cx} {K : PySem.W.Frag} (h : X.K = K) : OpR X (compareOp CmpOp.In) (rIn K false) := h ▸ op_in_seq
theorem findIdx_lt {sh : Shelf} {ws : List Wi} {i : Nat} (h : badAt sh ws = some i) : i < ws.length := by
  unfold badAt at h
  exact (List.findIdx?_eq_some_iff_getElem.mp h).1
theorem rt_len {A : Str} (h : Title A) : (reprText A).length ≤ sizeLine := by
  rcases h with rfl | rfl | rfl <;> decide +kernel
abbrev s_l_behind : Stmt := top 74
theorem sc_l_behind : FnScope ["_law_page", "_law_deed", "_law_shelf", "_law_wishes_here", "_law_uses", "_law_rest", "_law_k", "_law_each", "_law_later", "_law_at"] ["_law_page", "_law_deed"] (defScope s_l_behind) := ⟨rfl, rfl, rfl, by decide +kernel, rfl, by decide +kernel, by decide +kernel⟩
abbrev N_l_behind : List Str := ["_law_page", "_law_deed", "_law_shelf", "_law_wishes_here", "_law_uses", "_law_rest", "_law_k", "_law_each", "_law_later", "_law_at"]
def spBehind : Sp := fun vs H Q _ => ∃ v u pg d l, vs = [v, u] ∧ LPageL H v pg l ∧ PgOk pg ∧ LDeed H u d ∧ DeedOk d ∧ pg.ws.length < 9000 ∧
  ∀ r e v' H', Same H H' → H e = none → H' r = some (.tup [.ref e, v']) → (match behind pg d with
    | .inl er => H' e = some (.lst [.str er.cls, .str er.rep]) ∧ v' = v
    | .inr pg' => H' e = some (.lst []) ∧ ∃ l', LPageL H' v' pg' l' ∧ (l' = l ∨ H l' = none)) → Q (.ref r) H'
section
variable {P : Program} {w : World} {K : PySem.W.Frag} {mg : Str → Option Value} {base : Heap}
theorem d_l_behind (F : At K mg "_law_behind" s_l_behind) (B : Blt mg) (D_l_named : Dn P w K mg base CX0 1 "_law_named" ["_law_due"] spNamed) (D_l_broken : Dn P w K mg base CX0 5 "_law_broken" ["_law_shelf", "_law_wishes_here"] spBroken) : Dn P w K mg base CX0 6 "_law_behind" ["_law_page", "_law_deed"] spBehind := by
  refine F.ok sc_l_behind (fun vs H Q E h => ?_) (fun _ _ _ _ _ _ us hl => match us, hl with | [_, _], _ => rfl) (fun f cdv A outer s H vs Q E hr h => ?_)
  · obtain ⟨_, _, _, _, _, rfl, _⟩ := h
    rfl
  obtain ⟨v, u, pg, d, l, rfl, ⟨x, dd, rfl, hx, hd, hl⟩, hg, hu, ok, hn, k⟩ := h
  refine ⟨_, (pss_cons (ps_asg (pv 0) (pg_tup rfl (pgs_cons (pg_name (i := 2) sc_l_behind.nd rfl (.inr rfl)) (pgs_cons (pg_name (i := 3) sc_l_behind.nd rfl (.inr rfl)) pgs_nil))))
  (pss_cons (ps_if (pt_cmpR op_eq (pe_ix (r := rIxL K) ix_list (pv 1) pe_int (fun _ _ => rfl)) pe_str (nomark _)) (pss_cons (ps_if (pt_not (pt_chain op_le op_lt pe_int (pe_ix (r := rIxL K) ix_list (pv 1) pe_int (fun _ _ => rfl)) (pe_callB (id := "len") call_len_seq (by rfl) B.len (by decide +kernel) (pa_cons (pv 3) pa_nil)))) (pss_one (ps_ret (pe_tup (pa_cons (pe_lst (pa_cons pe_str (pa_cons (pe_callB (id := "repr") (CallR.or SkE.call_repr_int call_repr_str) (by rfl) B.repr (by decide +kernel) (pa_cons (pe_ix (r := rIxL K) ix_list (pv 1) pe_int (fun _ _ => rfl)) pa_nil)) pa_nil))) (pa_cons (pv 0) pa_nil))))) pss_nil)
  (pss_one (ps_ret (pe_tup (pa_cons (pe_lst pa_nil) (pa_cons (pe_tup (pa_cons (pv 2) (pa_cons (pe_op op_cat (pe_slice sl_list (pv 3) po_none (po_some (pe_ix (r := rIxL K) ix_list (pv 1) pe_int (fun _ _ => rfl)))) (pe_slice sl_list (pv 3) (po_some (pe_op op_add (pe_ix (r := rIxL K) ix_list (pv 1) pe_int (fun _ _ => rfl)) pe_int)) po_none)) pa_nil))) pa_nil)))))) pss_nil)
  (pss_cons (ps_if (pt_cmpR op_eq (pe_ix (r := rIxL K) ix_list (pv 1) pe_int (fun _ _ => rfl)) pe_str (nomark _)) (pss_cons (ps_if (pt_cmp (pc_dnotin (hu_of hr) (pe_ix (r := rIxL K) ix_list (pv 1) pe_int (fun _ _ => rfl)) (pv 2))) (pss_one (ps_ret (pe_tup (pa_cons (pe_lst (pa_cons pe_str (pa_cons (pe_callB (id := "repr") (CallR.or SkE.call_repr_int call_repr_str) (by rfl) B.repr (by decide +kernel) (pa_cons (pe_ix (r := rIxL K) ix_list (pv 1) pe_int (fun _ _ => rfl)) pa_nil)) pa_nil))) (pa_cons (pv 0) pa_nil))))) pss_nil)
  (pss_cons (ps_setLc (i := 4) (own := [("_law_k", 6)]) (g := gName 6) (by rfl) sc_l_behind.nd rfl rfl (sw_true rfl rfl rfl (by decide +kernel)) (pi_range1 rfl B.range (pa_cons (pe_callB (id := "len") call_len_seq (by rfl) B.len (by decide +kernel) (pa_cons (pv 3) pa_nil)) pa_nil)) (blkOk_by (own := [("_law_k", 6)]) (N := N_l_behind) (sc := defScope s_l_behind) (by decide +kernel)) (fun _ _ _ _ _ => pg_name (i := 6) sc_l_behind.nd rfl (Or.inl rfl)) (fun _ _ _ _ _ => pts_one (pt_cmpR (op_in_seqK (K := K) rfl) (pe_ix (r := rIxL K) ix_list (pv 1) pe_int (fun _ _ => rfl)) (pe_fn D_l_named hr (by decide) rfl (pa_cons (pe_ix (r := rIxL K) ix_list (pv 3) (pv 6) (fun _ _ => rfl)) pa_nil)) rfl)) (fun _ _ _ _ _ => (pv 6)))
  (pss_cons (ps_set (i := 5) sc_l_behind.nd rfl (.inl rfl) (pe_callTy (call_dictP rfl) (by rfl) B.dict (by decide +kernel) (pa_cons (pe_lock (pe_lc (own := [("_law_each", 7)]) (g := gName 7) rfl sc_l_behind.nd (pi_keys (pv 2)) (blkOk_by (own := [("_law_each", 7)]) (N := N_l_behind) (sc := defScope s_l_behind) (by decide +kernel)) (fun _ _ _ _ _ => pg_name (i := 7) sc_l_behind.nd rfl (Or.inl rfl)) (fun _ _ _ _ _ => pts_one (pt_cmpR op_ne (pv 7) (pe_ix (r := rIxL K) ix_list (pv 1) pe_int (fun _ _ => rfl)) (nomark _))) (fun _ _ _ _ _ => (pe_tup (pa_cons (pv 7) (pa_cons (pe_dget (by exact hu_of hr) (pv 2) (pv 7) (fun _ _ => rfl)) pa_nil)))))) pa_nil)))
  (pss_one (ps_ret (pe_ifExp (pt_cmpR (op_neD hr.units) (pv 4) (pe_lst pa_nil) (nomark _)) (pe_tup (pa_cons (pe_lst (pa_cons pe_str (pa_cons (pe_callB (id := "repr") (CallR.or SkE.call_repr_int call_repr_str) (by rfl) B.repr (by decide +kernel) (pa_cons (pe_ix (r := rIxL K) ix_list (pv 4) pe_int (fun _ _ => rfl)) pa_nil)) pa_nil))) (pa_cons (pv 0) pa_nil))) (pe_tup (pa_cons (pe_lst pa_nil) (pa_cons (pe_tup (pa_cons (pv 5) (pa_cons (pv 3) pa_nil))) pa_nil))))))))) pss_nil)
  (pss_cons (ps_set (i := 8) sc_l_behind.nd rfl (.inl rfl) (pe_tup (pa_cons (pv 2) (pa_cons (pe_op op_cat (pv 3) (pe_lst (pa_cons (pe_ix (r := rIxL K) ix_list (pv 1) pe_int (fun _ _ => rfl)) pa_nil))) pa_nil))))
  (pss_cons (ps_if (pt_cmpR op_eq (pe_ix (r := rIxL K) ix_list (pv 1) pe_int (fun _ _ => rfl)) pe_str (nomark _)) (pss_one (ps_set (i := 8) sc_l_behind.nd rfl (.inl rfl) (pe_tup (pa_cons (pe_callTy (call_dictP rfl) (by rfl) B.dict (by decide +kernel) (pa_cons (pe_op op_cat (pe_lock (pe_lc (own := [("_law_each", 7)]) (g := gName 7) rfl sc_l_behind.nd (pi_keys (pv 2)) (blkOk_by (own := [("_law_each", 7)]) (N := N_l_behind) (sc := defScope s_l_behind) (by decide +kernel)) (fun _ _ _ _ _ => pg_name (i := 7) sc_l_behind.nd rfl (Or.inl rfl)) (fun _ _ _ _ _ => pts_nil) (fun _ _ _ _ _ => (pe_tup (pa_cons (pv 7) (pa_cons (pe_dget (by exact hu_of hr) (pv 2) (pv 7) (fun _ _ => rfl)) pa_nil)))))) (pe_lst (pa_cons (pe_tup (pa_cons (pe_ix (r := rIxL K) ix_list (pv 1) pe_int (fun _ _ => rfl)) (pa_cons (pe_ix (r := rIxL K) ix_list (pv 1) pe_int (fun _ _ => rfl)) pa_nil))) pa_nil))) pa_nil)) (pa_cons (pv 3) pa_nil))))) pss_nil)
  (pss_cons (ps_set (i := 9) sc_l_behind.nd rfl (.inl rfl) (pe_fn D_l_broken hr (by decide) rfl (pa_cons (pe_ix (r := rIxT K) ix_tup (pv 8) pe_int (fun _ _ => rfl)) (pa_cons (pe_ix (r := rIxT K) ix_tup (pv 8) pe_int (fun _ _ => rfl)) pa_nil))))
  (pss_one (ps_ret (pe_ifExp (pt_cmpR op_ne (pv 9) (pe_un un_neg pe_int) (nomark _)) (pe_tup (pa_cons (pe_lst (pa_cons pe_str (pa_cons (pe_callB (id := "repr") (CallR.or SkE.call_repr_int call_repr_str) (by rfl) B.repr (by decide +kernel) (pa_cons (pv 9) pa_nil)) pa_nil))) (pa_cons (pv 0) pa_nil))) (pe_tup (pa_cons (pe_lst pa_nil) (pa_cons (pv 8) pa_nil)))))))))))), ?_⟩
  have sameH : ∀ {p : Addr} {o : HO}, H p = none → Same H (upd H p o) := fun h => same_new h
  refine ⟨_, rfl, x, _, rfl, SqT.of hx, rfl, _, _, rfl, _, _, rfl, rfl, ?_⟩
  cases d with
  | lift i =>
    obtain ⟨y, rfl, h1⟩ := hu
    obtain ⟨as, hl1, pw⟩ := hl
    have ln : (as.map V.ref).length = pg.ws.length := by rw [List.length_map, pw.len]
    refine ⟨_, rfl, y, _, 0, _, rfl, rfl, SqL.of h1, rfl, rfl, _, rfl, iteT ?_⟩
    refine ⟨_, rfl, y, _, 1, _, rfl, rfl, SqL.of h1, rfl, _, _, rfl, rfl, _, rfl, ?_⟩
    rw [if_pos (decide_eq_true (show (0 : Int) ≤ (i : Int) by omega))]
    refine ⟨_, rfl, l, _, rfl, .inl (SqL.of hl1), _, _, rfl, rfl, _, rfl, ?_⟩
    by_cases c : i < pg.ws.length
    · rw [show decide ((i : Int) < ((as.map V.ref).length : Int)) = true from decide_eq_true (by rw [ln]; omega)]
      rw [behind, if_pos c] at k
      refine iteF ⟨by decide, fun e he => ?_⟩
      have e0 : ∀ {σ : L2.St} {H : Hp} {R : Option Int → Hp → Prop}, R none H → tNoPart σ H R := fun h => h
      refine ⟨_, rfl, _, rfl, ?_⟩
      refine e0 ⟨_, rfl, y, _, 1, _, rfl, rfl, SqL.of (sameH he _ _ h1), rfl, _, rfl, l, _, rfl, SqL.of (sameH he _ _ hl1), fun r1 hr1 => ?_⟩
      rw [cut_take] at *
      have S1 := (sameH (o := .lst []) he).trans (same_new (o := .lst ((as.map V.ref).take i)) hr1)
      refine ⟨_, rfl, _, rfl, y, _, 1, _, rfl, rfl, SqL.of (S1 _ _ h1), rfl, _, _, rfl, rfl, _, rfl, ?_⟩
      refine e0 ⟨l, _, rfl, SqL.of (S1 _ _ hl1), fun r2 hr2 => ?_⟩
      have ei : (i : Int) + 1 = ((i + 1 : Nat) : Int) := by omega
      rw [ei, cut_drop] at *
      have S2 := S1.trans (same_new (o := .lst ((as.map V.ref).drop (i + 1))) hr2)
      refine ⟨r1, r2, _, _, rfl, rfl, same_new hr2 _ _ upd_same, upd_same, ?_, fun w' hw => ⟨sz2, fun t ht => ⟨sz2, fun r hr' => ?_⟩⟩⟩
      · rw [List.length_take, List.length_drop, ln]
        exact Nat.le_trans (show _ ≤ 10000 by omega) (by decide)
      have S3 := ((S2.trans (same_new (o := .lst ((as.map V.ref).take i ++ (as.map V.ref).drop (i + 1))) hw)).trans (same_new (o := .tup [.ref dd, .ref w']) ht)).trans (same_new (o := .tup [.ref e, .ref t]) hr')
      refine k r e _ _ S3 he upd_same ⟨?_, w', ⟨t, dd, rfl, same_new hr' _ _ upd_same, hd.on S3, as.take i ++ as.drop (i + 1), ?_, P2.app ((pw.imp fun a w h => S3 _ _ h).take i) ((pw.imp fun a w h => S3 _ _ h).drop (i + 1))⟩, .inr (S2.free hw)⟩
      · exact same_new hr' _ _ (same_new ht _ _ (same_new hw _ _ (same_new hr2 _ _ (same_new hr1 _ _ upd_same))))
      · rw [List.map_append, List.map_take, List.map_drop]
        exact same_new hr' _ _ (same_new ht _ _ upd_same)
    · rw [show decide ((i : Int) < ((as.map V.ref).length : Int)) = false from decide_eq_false (by rw [ln]; omega)]
      rw [behind, if_neg c] at k
      refine iteT ⟨_, rfl, y, _, 1, _, rfl, rfl, SqL.of h1, rfl, .inl ⟨_, rfl, log_small ok, sz2, fun e he => ⟨_, rfl, sz2, fun r hr' => ?_⟩⟩⟩
      exact k r e _ _ ((sameH he).trans (same_new hr')) he upd_same ⟨same_new hr' _ _ upd_same, rfl⟩
  | drop A =>
    obtain ⟨y, rfl, h1⟩ := hu
    refine ⟨_, rfl, y, _, 0, _, rfl, rfl, SqL.of h1, rfl, rfl, _, rfl, iteF ?_⟩
    refine ⟨_, rfl, y, _, 0, _, rfl, rfl, SqL.of h1, rfl, rfl, _, rfl, iteT ?_⟩
    refine ⟨_, rfl, y, _, 1, _, rfl, rfl, SqL.of h1, rfl, _, rfl, dd, ?_⟩
    rcases hd.get A with ⟨g1, g2⟩ | ⟨p, a, g1, g2, _⟩
    · rw [behind, g1] at k
      refine ⟨none, rfl, g2, _, rfl, iteT ?_⟩
      refine ⟨_, rfl, y, _, 1, _, rfl, rfl, SqL.of h1, rfl, .inr ⟨_, rfl, rt_len ok, sz2, fun e he => ⟨_, rfl, sz2, fun r hr' => ?_⟩⟩⟩
      exact k r e _ _ ((sameH he).trans (same_new hr')) he upd_same ⟨same_new hr' _ _ upd_same, rfl⟩
    refine ⟨_, rfl, g2, _, rfl, iteF ?_⟩
    rw [behind, g1] at k
    obtain ⟨as, hl1, pw⟩ := id hl
    have ln : (as.map V.ref).length = pg.ws.length := by rw [List.length_map, pw.len]
    refine ⟨_, rfl, l, _, rfl, .inl (SqL.of hl1), ((as.map V.ref).length : Nat), rfl, by omega, by omega, fun D hD => ?_⟩
    rw [Int.toNat_natCast]
    refine lc_go (J := Itr 0 (as.map V.ref).length) (n := (as.map V.ref).length) (j := 6) (Src.range 0 _) hD (by omega) (fun _ => rfl) (fun i ys G => ∃ ns : List Int, ys = ns.map V.int ∧ ((ns = [] ∧ ∀ (j : Nat) (w' : Wi), j < i → pg.ws[j]? = some w' → decide (A ∈ w'.names) = false) ∨ ∃ (u : Nat) (r : List Int), ns = ((u : Nat) : Int) :: r ∧ useAt A pg.ws = some u)) ⟨[], rfl, .inl ⟨rfl, fun j w' hj => absurd hj (Nat.not_lt_zero j)⟩⟩ (fun _ _ _ _ _ h => h) ?_ ?_
    · rintro i x' ys H2 hi rfl _ S2 hys ⟨ns, rfl, I⟩ Qe Qn ke kn
      obtain ⟨c, wi, e1, hwi, hc⟩ := ref_at pw (List.getElem?_eq_getElem hi)
      have e0 : (0 : Int) + (i : Int) = (i : Int) := by omega
      refine ⟨_, rfl, y, _, 1, _, rfl, rfl, SqL.of (S2 _ _ h1), rfl, _, rfl, _, rfl, l, _, _, (as.map V.ref)[i], rfl, rfl, SqL.of (S2 _ _ hl1), ?_, ?_⟩
      · rw [e0]
        exact atI_nat (List.getElem?_eq_getElem hi)
      rw [e1]
      refine ⟨c, wi, rfl, S2 _ _ hc, fun q H5 S5 hq => ⟨q, _, rfl, .inr (SqT.of hq), rfl, ?_, _, rfl, ?_⟩⟩
      · rw [List.all_eq_true]
        intro y hy
        obtain ⟨z, _, rfl⟩ := List.mem_map.mp hy
        rfl
      rw [show (if false = true then !inV (V.str A) (wi.names.map V.str) else inV (V.str A) (wi.names.map V.str)) = decide (A ∈ wi.names) from inV_names]
      cases e : decide (A ∈ wi.names) with
      | true =>
        refine iteT (B := Qn H5) ⟨_, rfl, ke _ _ S5 ⟨ns ++ [(i : Int)], by rw [List.map_append, e0]; rfl, .inr ?_⟩⟩
        rcases I with ⟨rfl, hj⟩ | ⟨u, r, rfl, hu'⟩
        · exact ⟨i, [], rfl, fi_some hwi e hj⟩
        · exact ⟨u, r ++ [(i : Int)], rfl, hu'⟩
      | false =>
        refine iteF (kn _ S5 ⟨ns, rfl, ?_⟩)
        rcases I with ⟨rfl, hj⟩ | hI
        · refine .inl ⟨rfl, fun j w' hj' hw' => ?_⟩
          by_cases z : j = i
          · subst z
            rw [hwi] at hw'
            cases hw'
            exact e
          · exact hj j w' (by omega) hw'
        · exact .inr hI
    · rintro ys H2 S2 hys _ ⟨ns, rfl, I⟩
      obtain ⟨kvs, hdk, rr⟩ := hd.on S2
      refine ⟨dd, .dK kvs, hdk, True.intro, fun od => ?_⟩
      generalize hHf : upd H2 dd (.frz od (.dK kvs)) = Hf
      have hnf : Hf dd = some (.frz od (.dK kvs)) := by rw [← hHf, upd_same]
      have bf : ∀ c o, c ≠ dd → H2 c = some o → Hf c = some o := fun c o hc ho => by rw [← hHf, upd_ne hc]; exact ho
      have ynd : y ≠ dd := ne_of (S2 _ _ h1) hdk (fun z => by cases z)
      have kl := rr.nodup
      refine ⟨_, rfl, dd, od, rfl, .inl ⟨kvs, hnf, fun D2 hD2 => ?_⟩⟩
      have sh3 : pg.sh.length ≤ 3 := by
        have := three hg.nd (fun z hz => by
          obtain ⟨q, hq, rfl⟩ := List.mem_map.mp hz
          exact hg.ti q hq)
        rw [List.length_map] at this
        exact this
      refine lc_pairs (j := 7) (fun B => decide (B ≠ A)) hnf hD2 (by omega) (rel_vals rr hg.nd) (fun _ => rfl) ?_ ?_
      · intro A' v' H3 Qe Qn S3 hv hq
        refine ⟨_, rfl, _, rfl, y, _, 1, _, rfl, rfl, SqL.of (S3 _ _ (bf _ _ ynd (S2 _ _ h1))), rfl, rfl, _, rfl, ?_⟩
        by_cases z : A' = A
        · rw [show decide (V.str A' = V.str A) = true from decide_eq_true (by rw [z])]
          rw [if_neg (by rw [decide_eq_false (fun h => h z)]; decide)] at hq
          exact iteF hq
        · rw [show decide (V.str A' = V.str A) = false from decide_eq_false (fun h => z (V.str.inj h))]
          rw [if_pos (decide_eq_true z)] at hq
          exact iteT (B := Qn H3) ⟨_, rfl, _, rfl, _, rfl, dd, _, rfl, .inl ⟨kvs, Sum.inr A', .inr ⟨od, S3 _ _ hnf⟩, rfl, hv.symm⟩, sz2, fun T hT => hq T hT⟩
      · intro ps H3 S3 hD3 hp
        refine ⟨S3 _ _ hnf, ?_⟩
        have dD : dd ≠ D2 := ne_of_none hnf hD2
        have SH : Same H2 (upd H3 dd (.dK kvs)) := fun c o ho => by
          by_cases z : c = dd
          · rw [z, upd_same, ← ho, z, hdk]
          · rw [upd_ne z]
            exact S3 _ _ (bf _ _ z ho)
        have hDu : upd H3 dd (.dK kvs) D2 = some (.lst (ps.map V.ref)) := by rw [upd_ne (Ne.symm dD)]; exact hD3
        have hpu : Paired (fun p (kv : Key × V) => upd H3 dd (.dK kvs) p = some (.tup [kV kv.1, kv.2])) ps (kvs.filter fun kv => (fun B => decide (B ≠ A)) (keyStr kv.1)) := paired_imp (fun a b g => by
          rw [upd_ne (fun z => by rw [z, S3 _ _ hnf] at g; cases g)]
          exact g) hp
        generalize upd H3 dd (.dK kvs) = Hu at SH hDu hpu ⊢
        refine ⟨D2, ps, _, rfl, SqL.of hDu, pairs_sq hpu, fun q hq => ?_⟩
        have hr2 : Rel2 (fun p v => ∃ a, v = .ref a ∧ LPlan H2 a p) (dropSh pg.sh A) (mergeK [] (kvs.filter fun (kv : Key × V) => (fun B => decide (B ≠ A)) (keyStr kv.1))) :=
          merge_rel (sh0 := []) (acc := []) .nil (rr.filter (fun B => decide (B ≠ A))) (List.Nodup.sublist ((List.filter_sublist (l := pg.sh)).map _) hg.nd)
        generalize mergeK [] (kvs.filter fun (kv : Key × V) => (fun B => decide (B ≠ A)) (keyStr kv.1)) = kvs2 at hr2 ⊢
        have S4 := (S2.trans SH).trans (same_new (o := .dK kvs2) hq)
        have hys4 : upd Hu q (.dK kvs2) D = some (.lst (ns.map V.int)) := same_new hq _ _ (SH _ _ hys)
        refine ⟨_, rfl, by decide, fun q0 hq0 => ⟨.list (ns.map PyData.int), .list [], .lst (SqL.of (same_new hq0 _ _ hys4)) (dp_ints _), .lst (SqL.of upd_same) .nil, list_shaped _, by decide +kernel, _, rfl, ?_⟩⟩
        have e2 : PyData.eqv (.list (ns.map PyData.int)) (.list []) = decide (ns = []) := by
          have e1 := eqvAll_ints ns []
          rw [← e1]
          simp [PyData.eqv]
        rw [e2]
        have S5 := S4.trans (same_new (o := .lst []) hq0)
        rcases I with ⟨rfl, hj⟩ | ⟨u, r, rfl, hu'⟩
        · have eb : useAt A pg.ws = none := fi_none fun j y hy => hj j y (by
            rw [ln]
            exact (List.getElem?_eq_some_iff.mp hy).1) hy
          rw [eb] at k
          refine iteF ⟨by decide, fun e he => ⟨_, rfl, _, rfl, sz2, fun t ht => ⟨sz2, fun r hr' => ?_⟩⟩⟩
          have S6 := ((same_new (o := .lst []) he).trans (same_new (o := .tup [.ref q, .ref l]) ht)).trans (same_new (o := .tup [.ref e, .ref t]) hr')
          refine k r e _ _ (S5.trans S6) (S5.free he) upd_same ⟨same_new hr' _ _ (same_new ht _ _ upd_same), l, ⟨t, q, rfl, same_new hr' _ _ upd_same, ⟨kvs2, S6 _ _ (same_new hq0 _ _ upd_same), hr2.imp fun p v ⟨a, e, n⟩ => ⟨a, e, n.on (((SH.trans (same_new hq)).trans (same_new hq0)).trans S6)⟩⟩, hl.on (S5.trans S6)⟩, .inl rfl⟩
        · rw [hu'] at k
          have hi : u < 10000 := Nat.lt_trans (List.findIdx?_eq_some_iff_getElem.mp hu').1 (by omega)
          refine iteT ⟨_, rfl, D, _, 0, _, rfl, rfl, SqL.of (same_new hq0 _ _ hys4), atI_nat (j := 0) rfl, .inl ⟨_, rfl, log_small hi, sz2, fun e he => ⟨_, rfl, sz2, fun r hr' => ?_⟩⟩⟩
          exact k _ e _ _ (S5.trans ((same_new he).trans (same_new hr'))) (S5.free he) upd_same ⟨same_new hr' _ _ upd_same, rfl⟩
  | wish wi =>
    obtain ⟨y, z, rfl, h1, h2⟩ := hu
    obtain ⟨as, hl1, pw⟩ := hl
    have ln : (as.map V.ref).length = pg.ws.length := by rw [List.length_map, pw.len]
    refine ⟨_, rfl, y, _, 0, _, rfl, rfl, SqL.of h1, rfl, rfl, _, rfl, iteF ?_⟩
    refine ⟨_, rfl, y, _, 0, _, rfl, rfl, SqL.of h1, rfl, rfl, _, rfl, iteF ?_⟩
    refine ⟨_, rfl, _, rfl, _, rfl, y, _, 1, _, rfl, rfl, SqL.of h1, rfl, sz1, fun q hq => ?_⟩
    refine ⟨l, q, _, _, rfl, rfl, same_new hq _ _ hl1, upd_same, ?_, fun w' hw => ⟨sz2, fun t ht => ?_⟩⟩
    · rw [ln]
      exact Nat.le_trans (show _ ≤ 10000 by show pg.ws.length + 1 ≤ 10000; omega) (by decide)
    have S1 := ((same_new (o := .lst [V.ref z]) hq).trans (same_new (o := .lst (as.map V.ref ++ [V.ref z])) hw)).trans (same_new (o := .tup [.ref dd, .ref w']) ht)
    refine ⟨_, rfl, y, _, 0, _, rfl, rfl, SqL.of (S1 _ _ h1), rfl, rfl, _, rfl, iteF ?_⟩
    have ht1 : upd (upd (upd H q (.lst [V.ref z])) w' (.lst (as.map V.ref ++ [V.ref z]))) t (.tup [.ref dd, .ref w']) t = some (.tup [.ref dd, .ref w']) := upd_same
    have hl2 : LWs (upd (upd (upd H q (.lst [V.ref z])) w' (.lst (as.map V.ref ++ [V.ref z]))) t (.tup [.ref dd, .ref w'])) w' (pg.ws ++ [wi]) := by
      refine ⟨as ++ [z], ?_, P2.app (pw.imp fun a w h => S1 _ _ h) (.cons (S1 _ _ h2) .nil)⟩
      rw [List.map_append]
      exact same_new ht _ _ upd_same
    have hd1 := hd.on S1
    generalize upd (upd (upd H q (.lst [V.ref z])) w' (.lst (as.map V.ref ++ [V.ref z]))) t (.tup [.ref dd, .ref w']) = H1 at S1 ht1 hl2 hd1 ⊢
    refine ⟨_, rfl, t, _, 0, _, rfl, rfl, SqT.of ht1, rfl, _, rfl, t, _, 1, _, rfl, rfl, SqT.of ht1, rfl, dd, w', pg.sh, pg.ws ++ [wi], rfl, hd1, hg.sh, hl2, fun w hw => ?_, ?_, fun H2 S2 => ?_⟩
    · rcases List.mem_append.mp hw with z | z
      · exact hg.ws w z
      · rw [List.mem_singleton.mp z]
        exact ok
    · rw [List.length_append]
      show pg.ws.length + 1 < 10000
      omega
    have hlt : (pg.ws ++ [wi]).length < 10000 := by
      rw [List.length_append]
      show pg.ws.length + 1 < 10000
      omega
    have hbe : behind pg (.wish wi) = match badAt pg.sh (pg.ws ++ [wi]) with | some i => .inl (.broken i) | none => .inr ⟨pg.sh, pg.ws ++ [wi]⟩ := by
      have hz : ∀ j y', j < pg.ws.length → (pg.ws ++ [wi])[j]? = some y' → (!holdsW pg.sh y') = false := fun j y' hj hy => by
        rw [List.getElem?_append_left hj] at hy
        rw [hg.ho _ (List.mem_of_getElem? hy)]
        rfl
      cases e : holdsW pg.sh wi with
      | true =>
        have : badAt pg.sh (pg.ws ++ [wi]) = none := fi_none fun j y' hy => by
          rcases Nat.lt_or_ge j pg.ws.length with z | z
          · exact hz j y' z hy
          · have : y' = wi := by
              rw [List.getElem?_append_right z] at hy
              have := List.mem_of_getElem? hy
              simpa using this
            rw [this, e]
            rfl
        rw [this]
        show (if holdsW pg.sh wi = true then _ else _) = _
        rw [e, if_pos rfl]
      | false =>
        have : badAt pg.sh (pg.ws ++ [wi]) = some pg.ws.length := fi_some (x := wi) (by simp) (by rw [e]; rfl) hz
        rw [this]
        show (if holdsW pg.sh wi = true then _ else _) = _
        rw [e, if_neg (by decide)]
    cases eb : badAt pg.sh (pg.ws ++ [wi]) with
    | some i =>
      rw [eb] at hbe
      rw [hbe] at k
      have hi : i < 10000 := Nat.lt_trans (findIdx_lt eb) hlt
      refine ⟨_, rfl, _, rfl, rfl, _, rfl, ?_⟩
      rw [show decide (V.int (brk (some i)) = V.int (-1)) = false from decide_eq_false fun z => by injection z with z; have : ((i : Nat) : Int) = -1 := z; omega]
      refine iteT ⟨_, rfl, .inl ⟨_, rfl, log_small hi, sz2, fun e he => ⟨_, rfl, sz2, fun r hr' => ?_⟩⟩⟩
      exact k r e _ _ (S1.trans (S2.trans ((same_new he).trans (same_new hr')))) ((S1.trans S2).free he) upd_same ⟨same_new hr' _ _ upd_same, rfl⟩
    | none =>
      rw [eb] at hbe
      rw [hbe] at k
      refine ⟨_, rfl, _, rfl, rfl, _, rfl, ?_⟩
      rw [show decide (V.int (brk none) = V.int (-1)) = true by decide]
      refine iteF ⟨by decide, fun e he => ⟨_, rfl, sz2, fun r hr' => ?_⟩⟩
      have S4 := S2.trans ((same_new (o := .lst []) he).trans (same_new (o := .tup [.ref e, .ref t]) hr'))
      exact k r e _ _ (S1.trans S4) ((S1.trans S2).free he) upd_same ⟨same_new hr' _ _ upd_same, w', ⟨t, _, rfl, S4 _ _ ht1, hd1.on S4, hl2.on S4⟩, .inr ((same_new hq).free hw)⟩
  | put A p =>
    obtain ⟨y, z, rfl, h1, h2⟩ := hu
    obtain ⟨as, hl1, pw⟩ := id hl
    have ln : (as.map V.ref).length = pg.ws.length := by rw [List.length_map, pw.len]
    refine ⟨_, rfl, y, _, 0, _, rfl, rfl, SqL.of h1, rfl, rfl, _, rfl, iteF ?_⟩
    refine ⟨_, rfl, y, _, 0, _, rfl, rfl, SqL.of h1, rfl, rfl, _, rfl, iteF ?_⟩
    refine ⟨_, rfl, _, rfl, _, rfl, y, _, 1, _, rfl, rfl, SqL.of h1, rfl, sz1, fun q hq => ?_⟩
    refine ⟨l, q, _, _, rfl, rfl, same_new hq _ _ hl1, upd_same, ?_, fun w' hw => ⟨sz2, fun t ht => ?_⟩⟩
    · rw [ln]
      exact Nat.le_trans (show _ ≤ 10000 by show pg.ws.length + 1 ≤ 10000; omega) (by decide)
    have S1 := ((same_new (o := .lst [V.str A]) hq).trans (same_new (o := .lst (as.map V.ref ++ [V.str A])) hw)).trans (same_new (o := .tup [.ref dd, .ref w']) ht)
    refine ⟨_, rfl, y, _, 0, _, rfl, rfl, SqL.of (S1 _ _ h1), rfl, rfl, _, rfl, iteT ?_⟩
    generalize upd (upd (upd H q (.lst [V.str A])) w' (.lst (as.map V.ref ++ [V.str A]))) t (.tup [.ref dd, .ref w']) = H2 at S1 ⊢
    obtain ⟨kvs, hdk, rr⟩ := hd.on S1
    refine ⟨dd, .dK kvs, hdk, True.intro, fun od => ?_⟩
    generalize hHf : upd H2 dd (.frz od (.dK kvs)) = Hf
    have hnf : Hf dd = some (.frz od (.dK kvs)) := by rw [← hHf, upd_same]
    have bf : ∀ c o, c ≠ dd → H2 c = some o → Hf c = some o := fun c o hc ho => by rw [← hHf, upd_ne hc]; exact ho
    have kl := rr.nodup
    refine ⟨_, rfl, dd, od, rfl, .inl ⟨kvs, hnf, fun D2 hD2 => ?_⟩⟩
    have sh3 : pg.sh.length ≤ 3 := by
      have := three hg.nd (fun z hz => by
        obtain ⟨q, hq, rfl⟩ := List.mem_map.mp hz
        exact hg.ti q hq)
      rw [List.length_map] at this
      exact this
    refine lc_pairs (j := 7) (fun B => true) hnf hD2 (by omega) (rel_vals rr hg.nd) (fun _ => rfl) ?_ ?_
    · intro A' v' H3 Qe Qn S3 hv hq
      exact ⟨_, rfl, _, rfl, _, rfl, dd, _, rfl, .inl ⟨kvs, Sum.inr A', .inr ⟨od, S3 _ _ hnf⟩, rfl, hv.symm⟩, sz2, fun T hT => hq T hT⟩
    intro ps H3 S3 hD3 hp
    refine ⟨S3 _ _ hnf, ?_⟩
    have dD : dd ≠ D2 := ne_of_none hnf hD2
    have SH : Same H2 (upd H3 dd (.dK kvs)) := fun c o ho => by
      by_cases z : c = dd
      · rw [z, upd_same, ← ho, z, hdk]
      · rw [upd_ne z]
        exact S3 _ _ (bf _ _ z ho)
    have hDu : upd H3 dd (.dK kvs) D2 = some (.lst (ps.map V.ref)) := by rw [upd_ne (Ne.symm dD)]; exact hD3
    have hpu : Paired (fun p (kv : Key × V) => upd H3 dd (.dK kvs) p = some (.tup [kV kv.1, kv.2])) ps kvs := by
      rw [show (kvs.filter fun kv => (fun B => true) (keyStr kv.1)) = kvs from List.filter_eq_self.mpr fun _ _ => rfl] at hp
      exact paired_imp (fun a b g => by
        rw [upd_ne (fun z => by rw [z, S3 _ _ hnf] at g; cases g)]
        exact g) hp
    generalize upd H3 dd (.dK kvs) = Hu at SH hDu hpu ⊢
    have SU := S1.trans SH
    refine ⟨_, rfl, y, _, 1, _, rfl, rfl, SqL.of (SU _ _ h1), rfl, _, rfl, y, _, 2, _, rfl, rfl, SqL.of (SU _ _ h1), rfl, sz2, fun T hT => ⟨sz1, fun q2 hq2 => ?_⟩⟩
    have pl : ps.length = kvs.length := paired_len hpu
    refine ⟨D2, q2, _, _, rfl, rfl, same_new hq2 _ _ (same_new hT _ _ hDu), upd_same, ?_, fun w2 hw2 => ?_⟩
    · rw [List.length_map, pl, kl]
      exact Nat.le_trans (show _ ≤ 10 by show pg.sh.length + 1 ≤ 10; omega) (by decide)
    refine ⟨w2, ps ++ [T], kvs ++ [((Sum.inr A : Key), .ref z)], rfl, SqL.of (by rw [List.map_append]; exact upd_same), ?_, fun d2 hd2 => ?_⟩
    · exact Paired.snoc (paired_imp (fun a b g => SqT.of (same_new hw2 _ _ (same_new hq2 _ _ (same_new hT _ _ g)))) hpu) (SqT.of (same_new hw2 _ _ (same_new hq2 _ _ upd_same)))
    refine ⟨_, rfl, sz2, fun t2 ht2 => ?_⟩
    have hr2 : Rel2 (fun p v => ∃ a, v = .ref a ∧ LPlan H2 a p) (putSh pg.sh A p) (mergeK [] (kvs ++ [((Sum.inr A : Key), .ref z)])) := merge_put rr hg.nd ⟨z, rfl, h2.on S1⟩
    generalize mergeK [] (kvs ++ [((Sum.inr A : Key), .ref z)]) = kvs2 at hr2 ht2 ⊢
    have S5 := ((((SH.trans (same_new (o := .tup [.str A, .ref z]) hT)).trans (same_new (o := .lst [.ref T]) hq2)).trans (same_new (o := .lst (ps.map V.ref ++ [.ref T])) hw2)).trans (same_new (o := .dK kvs2) hd2)).trans (same_new (o := .tup [.ref d2, .ref l]) ht2)
    have S9 := S1.trans S5
    have ht9 : upd (upd (upd (upd (upd Hu T (.tup [.str A, .ref z])) q2 (.lst [.ref T])) w2 (.lst (ps.map V.ref ++ [.ref T]))) d2 (.dK kvs2)) t2 (.tup [.ref d2, .ref l]) t2 = some (.tup [.ref d2, .ref l]) := upd_same
    have hd9 : LDic (upd (upd (upd (upd (upd Hu T (.tup [.str A, .ref z])) q2 (.lst [.ref T])) w2 (.lst (ps.map V.ref ++ [.ref T]))) d2 (.dK kvs2)) t2 (.tup [.ref d2, .ref l])) d2 (putSh pg.sh A p) := ⟨kvs2, same_new ht2 _ _ upd_same, hr2.imp fun p v ⟨a, e, n⟩ => ⟨a, e, n.on S5⟩⟩
    generalize upd (upd (upd (upd (upd Hu T (.tup [.str A, .ref z])) q2 (.lst [.ref T])) w2 (.lst (ps.map V.ref ++ [.ref T]))) d2 (.dK kvs2)) t2 (.tup [.ref d2, .ref l]) = H9 at S9 S5 ht9 hd9
    refine ⟨_, rfl, t2, _, 0, _, rfl, rfl, SqT.of ht9, rfl, _, rfl, t2, _, 1, _, rfl, rfl, SqT.of ht9, rfl, d2, l, putSh pg.sh A p, pg.ws, rfl, hd9, hg.sh.put ok.2, hl.on S9, hg.ws, hg.len, fun H8 S8 => ?_⟩
    have hbe : behind pg (.put A p) = match badAt (putSh pg.sh A p) pg.ws with | some i => .inl (.broken i) | none => .inr ⟨putSh pg.sh A p, pg.ws⟩ := rfl
    cases eb : badAt (putSh pg.sh A p) pg.ws with
    | some i =>
      rw [eb] at hbe
      rw [hbe] at k
      have hi : i < 10000 := Nat.lt_trans (findIdx_lt eb) (by omega)
      refine ⟨_, rfl, _, rfl, rfl, _, rfl, ?_⟩
      rw [show decide (V.int (brk (some i)) = V.int (-1)) = false from decide_eq_false fun z => by injection z with z; have : ((i : Nat) : Int) = -1 := z; omega]
      refine iteT ⟨_, rfl, .inl ⟨_, rfl, log_small hi, sz2, fun e he => ⟨_, rfl, sz2, fun r hr' => ?_⟩⟩⟩
      exact k r e _ _ (S9.trans (S8.trans ((same_new he).trans (same_new hr')))) ((S9.trans S8).free he) upd_same ⟨same_new hr' _ _ upd_same, rfl⟩
    | none =>
      rw [eb] at hbe
      rw [hbe] at k
      refine ⟨_, rfl, _, rfl, rfl, _, rfl, ?_⟩
      rw [show decide (V.int (brk none) = V.int (-1)) = true by decide]
      refine iteF ⟨by decide, fun e he => ⟨_, rfl, sz2, fun r hr' => ?_⟩⟩
      have S4 := S8.trans ((same_new (o := .lst []) he).trans (same_new (o := .tup [.ref e, .ref t2]) hr'))
      exact k r e _ _ (S9.trans S4) ((S9.trans S8).free he) upd_same ⟨same_new hr' _ _ upd_same, l, ⟨t2, d2, rfl, S4 _ _ ht9, hd9.on S4, (hl.on S9).on S4⟩, .inl rfl⟩
end
end Pp
-- G9a
namespace Pp
open PySem PySem.Spec PyProof.Rows L2
theorem lastP_snoc : ∀ (pg : Page) (l : List Page) (p : Page), lastP pg (l ++ [p]) = p
  | _, [], _ => rfl
  | _, q :: l, p => lastP_snoc q l p
theorem runs_snoc : ∀ (pg : Page) (ds : List Deed) (d : Deed), runs pg (ds ++ [d]) = match (runs pg ds).2 with
    | some e => runs pg ds
    | none => match behind (lastP pg (runs pg ds).1) d with
      | .inl er => ((runs pg ds).1, some er)
      | .inr p => ((runs pg ds).1 ++ [p], none)
  | pg, [], d => by
    show runs pg [d] = match behind (lastP pg []) d with | .inl er => ([], some er) | .inr p => ([p], none)
    have e0 : lastP pg [] = pg := rfl
    rw [e0]
    cases e : behind pg d with
    | inl er => rw [runs_inl e]
    | inr p => rw [runs_inr e]; rfl
  | pg, d0 :: ds, d => by
    rw [List.cons_append]
    cases e : behind pg d0 with
    | inl er => rw [runs_inl e, runs_inl e]
    | inr p =>
      rw [runs_inr e, runs_inr e, runs_snoc p ds d]
      have el : lastP pg (p :: (runs p ds).1) = lastP p (runs p ds).1 := rfl
      rw [el]
      generalize runs p ds = X
      obtain ⟨ps, o⟩ := X
      cases o with
      | some er => rfl
      | none =>
        dsimp only
        cases behind (lastP p ps) d <;> rfl
def dueS : Option Err → List Str
  | none => []
  | some e => [e.cls, e.rep]
theorem dp_strs {K : PySem.W.Frag} {H : Hp} : ∀ l : List Str, DpAll K H (l.map V.str) (l.map PyData.str)
  | [] => .nil
  | i :: l => .cons (.str i) (dp_strs l)
theorem eqvAll_strs : ∀ l m : List Str, PyData.eqvAll (l.map PyData.str) (m.map PyData.str) = decide (l = m)
  | [], [] => by simp [PyData.eqvAll]
  | [], _ :: _ => by simp [PyData.eqvAll]
  | _ :: _, [] => by simp [PyData.eqvAll]
  | a :: l, b :: m => by
    have ih := eqvAll_strs l m
    show (PyData.eqv (.str a) (.str b) && PyData.eqvAll (l.map PyData.str) (m.map PyData.str)) = _
    rw [ih]
    by_cases h1 : a = b <;> by_cases h2 : l = m <;> simp [PyData.eqv, h1, h2]
theorem eqv_strs (l m : List Str) : PyData.eqv (.list (l.map PyData.str)) (.list (m.map PyData.str)) = decide (l = m) := by
  rw [← eqvAll_strs l m]
  simp [PyData.eqv]
theorem strOk_of (z : String) : PyData.strOk (Str.ofString z) = true := by
  rw [Str.ofString_eq_toList]
  unfold PyData.strOk
  show (List.map Char.toNat z.toList).toArray.all (fun x => decide (x < 0x110000)) = true
  rw [List.all_toArray, List.all_eq_true]
  intro x hx
  obtain ⟨c, _, rfl⟩ := List.mem_map.mp hx
  rw [decide_eq_true_eq]
  have := c.valid
  rcases this with h | h
  · exact Nat.lt_trans h (by decide)
  · exact h.2
theorem strs_lay : ∀ l : List Str, (∀ z ∈ l, PyData.strOk z = true) → PyData.canLayAll0 (l.map PyData.str) = true ∧ PyData.depthAll (l.map PyData.str) = 0
  | [], _ => ⟨by simp [PyData.canLayAll0], by simp [PyData.depthAll]⟩
  | i :: l, h => by
    obtain ⟨h1, h2⟩ := strs_lay l fun z hz => h z (List.mem_cons_of_mem _ hz)
    have h3 := h i List.mem_cons_self
    exact ⟨by simp [PyData.canLayAll0, PyData.canLay0, h1, h3], by simp [PyData.depthAll, PyData.depth, h2]⟩
theorem strs_shaped (l : List Str) (h : ∀ z ∈ l, PyData.strOk z = true) : SeqAt.shaped (.list (l.map PyData.str)) = true := by
  obtain ⟨h1, h2⟩ := strs_lay l h
  simp [SeqAt.shaped, PyData.canLay0, PyData.canLayAll0, PyData.depth, PyData.depthAll, h1, h2]
theorem due_ok {o : Option Err} (h : ∀ e, o = some e → e.ok) : ∀ z ∈ dueS o, PyData.strOk z = true := by
  cases o with
  | none => intro z hz; cases hz
  | some e =>
    have ok := h e rfl
    intro z hz
    have : z = e.cls ∨ z = e.rep := by simpa [dueS] using hz
    rcases this with rfl | rfl
    · cases e <;> exact strOk_of _
    · cases e with
      | unknown A =>
        have ok : Title A := ok
        rcases ok with rfl | rfl | rfl <;> decide +kernel
      | inUse i => exact strOk_of _
      | broken i => exact strOk_of _
      | index i => exact strOk_of _
      | deeds i => exact strOk_of _
theorem behind_err {pg : Page} {d : Deed} {er : Err} (h : PgOk pg) (ok : DeedOk d) (hl : pg.ws.length < 9000) (e : behind pg d = .inl er) : er.ok := by
  cases d with
  | put A p =>
    rw [behind] at e
    cases eb : badAt (putSh pg.sh A p) pg.ws with
    | none => rw [eb] at e; cases e
    | some i =>
      rw [eb] at e
      cases e
      exact Nat.lt_trans (findIdx_lt eb) h.len
  | drop A =>
    rw [behind] at e
    cases el : look pg.sh A with
    | none => rw [el] at e; cases e; exact ok
    | some p0 =>
      rw [el] at e
      cases eb : useAt A pg.ws with
      | none => simp only [eb] at e; cases e
      | some i =>
        simp only [eb] at e
        cases e
        exact Nat.lt_trans (List.findIdx?_eq_some_iff_getElem.mp eb).1 h.len
  | wish w =>
    rw [behind] at e
    split at e
    · cases e
    · cases e; exact h.len
  | lift i =>
    rw [behind] at e
    split at e
    · cases e
    · cases e; exact ok
theorem P2.last {α β : Type} {R : α → β → Prop} : ∀ {xs : List α} {ys : List β}, P2 R xs ys → ∀ {b : β}, ys[ys.length - 1]? = some b → ∃ a, xs[xs.length - 1]? = some a ∧ R a b := by
  intro xs ys h b e
  rw [← h.len] at e
  exact h.get e
theorem last_get : ∀ (pg : Page) (l : List Page), (pg :: l)[(pg :: l).length - 1]? = some (lastP pg l)
  | _, [] => rfl
  | pg, q :: l => by
    have ih := last_get q l
    show (pg :: q :: l)[(q :: l).length]? = _
    rw [List.length_cons, List.getElem?_cons_succ]
    exact ih
theorem atI_neg1 {α : Type} {xs : List α} {a : α} (h : xs[xs.length - 1]? = some a) : atI xs (-1) = some a := by
  unfold atI ixN
  have hl : 1 ≤ xs.length := by
    rcases Nat.eq_zero_or_pos xs.length with z | z
    · rw [List.getElem?_eq_none (by omega)] at h
      cases h
    · exact z
  rw [if_neg (by decide), if_pos (by omega)]
  have e : ((-1 : Int) + (xs.length : Int)).toNat = xs.length - 1 := by omega
  rw [e]
  exact h
theorem JugAt.neA {n : Nat} {H : Hp} {j l : Addr} {as : List Addr} (J : JugAt n H j) (h : H l = some (.lst (as.map V.ref))) : l ≠ j := by
  rintro rfl
  obtain ⟨_, _, _, e, _⟩ := J
  rw [h] at e
  injection e with e
  injection e with e
  cases as with
  | nil => cases e
  | cons a as =>
    injection e with e _
    cases e
theorem LPageL.wo {n : Nat} {H : Hp} {j : Addr} {v : V} {pg : Page} {l : Addr} (J : JugAt n H j) (h : LPageL H v pg l) : LPageL (wo j H) v pg l := by
  obtain ⟨x, d, e, h1, ⟨kvs, h2, h3⟩, as, h4, h5⟩ := h
  have hj : ∃ xs, H j = some (.lst xs) := by
    obtain ⟨_, _, _, e, _⟩ := J
    exact ⟨_, e⟩
  obtain ⟨js, hj⟩ := hj
  have nt : ∀ {b : Addr} {ys : List V}, H b = some (.tup ys) → b ≠ j := fun hb z => by rw [z, hj] at hb; cases hb
  exact ⟨x, d, e, wo_at (nt h1) h1, ⟨kvs, wo_at (fun z => by rw [z, hj] at h2; cases h2) h2, h3.imp fun p v ⟨a, e, r⟩ => ⟨a, e, r.wo J⟩⟩, as, wo_at (J.neA h4) h4, h5.imp fun a w g => wo_at (nt g) g⟩
theorem JugAt.td {n : Nat} {H H' : Hp} {j : Addr} (J : JugAt n H j) (b : But j H H') : TD H H' := by
  obtain ⟨_, _, _, e, _⟩ := J
  exact TD.but b (fun xs z => by rw [e] at z; cases z) (fun xs z => by rw [e] at z; cases z)
end Pp
-- G9
namespace Pp
open PySem PySem.Spec PyProof.Rows L2
theorem runs_len : ∀ (pg : Page) (ds : List Deed), (runs pg ds).1.length ≤ ds.length
  | _, [] => Nat.le_refl _
  | pg, d :: ds => by
    cases e : behind pg d with
    | inl er => rw [runs_inl e]; exact Nat.zero_le _
    | inr p => rw [runs_inr e]; exact Nat.succ_le_succ (runs_len p ds)
structure ManyI (H : Hp) (j dl : Addr) (pg : Page) (i : Nat) (H3 : Hp) (pl ul : Addr) (xs ps : List V) (ds : List Deed) : Prop where
  b : But j H H3
  adl : wo j H3 dl = some (.lst xs)
  ads : P2 (DeedAt H3) xs ds
  ok : ∀ d ∈ ds, DeedOk d
  len : xs.length ≤ i
  npl : pl ≠ dl
  nul : ul ≠ dl
  apl : wo j H3 pl = some (.lst ps)
  aps : P2 (fun v g => ∃ l', l' ≠ dl ∧ LPageL (wo j H3) v g l') ps (pg :: (runs pg ds).1)
  gs : ∀ g ∈ (runs pg ds).1, PgOk g ∧ g.ws.length ≤ pg.ws.length + i
  aul : wo j H3 ul = some (.lst ((dueS (runs pg ds).2).map V.str))
  er : ∀ e, (runs pg ds).2 = some e → e.ok
theorem ManyI.on {H : Hp} {j dl : Addr} {pg : Page} {i n : Nat} {H3 H4 : Hp} {pl ul : Addr} {xs ps : List V} {ds : List Deed} (J : JugAt n H3 j) (B : But j H3 H4) (h : ManyI H j dl pg i H3 pl ul xs ps ds) : ManyI H j dl pg i H4 pl ul xs ps ds :=
  ⟨h.b.trans B, B.wo _ _ h.adl, h.ads.imp fun v d g => g.td (J.td B), h.ok, h.len, h.npl, h.nul, B.wo _ _ h.apl, h.aps.imp fun v g ⟨l', n, g⟩ => ⟨l', n, g.on B.wo⟩, h.gs, B.wo _ _ h.aul, h.er⟩
theorem ManyI.succ {H : Hp} {j dl : Addr} {pg : Page} {i : Nat} {H3 : Hp} {pl ul : Addr} {xs ps : List V} {ds : List Deed} (h : ManyI H j dl pg i H3 pl ul xs ps ds) : ManyI H j dl pg (i + 1) H3 pl ul xs ps ds :=
  ⟨h.b, h.adl, h.ads, h.ok, Nat.le_succ_of_le h.len, h.npl, h.nul, h.apl, h.aps, fun g hg => ⟨(h.gs g hg).1, Nat.le_succ_of_le (h.gs g hg).2⟩, h.aul, h.er⟩
theorem lastP_mem : ∀ (pg : Page) (l : List Page), lastP pg l = pg ∨ lastP pg l ∈ l
  | _, [] => .inl rfl
  | pg, q :: l => by
    rcases lastP_mem q l with h | h
    · right
      show lastP q l ∈ q :: l
      rw [h]
      exact List.mem_cons_self
    · exact .inr (List.mem_cons_of_mem _ h)
theorem ManyI.last {H : Hp} {j dl : Addr} {pg : Page} {i : Nat} {H3 : Hp} {pl ul : Addr} {xs ps : List V} {ds : List Deed} (h : ManyI H j dl pg i H3 pl ul xs ps ds) (hg : PgOk pg) :
    ∃ v l', ps[ps.length - 1]? = some v ∧ l' ≠ dl ∧ LPageL (wo j H3) v (lastP pg (runs pg ds).1) l' ∧ PgOk (lastP pg (runs pg ds).1) ∧ (lastP pg (runs pg ds).1).ws.length ≤ pg.ws.length + i := by
  obtain ⟨v, h1, l', h2, h3⟩ := h.aps.last (last_get pg (runs pg ds).1)
  refine ⟨v, l', h1, h2, h3, ?_⟩
  rcases lastP_mem pg (runs pg ds).1 with e | e
  · rw [e]
    exact ⟨hg, Nat.le_add_right _ _⟩
  · exact h.gs _ e
theorem tifor {t u : TT} {a b : TS} {D : Ends} {σ : L2.St} {H : Hp} (P : Hp → Prop) (key : ∀ H', P H' → a D σ H') (h : (∀ H', P H' → a D σ H') → t σ H fun c H1 => if c = true then a D σ H1 else u σ H1 fun c2 H2 => if c2 = true then a D σ H2 else b D σ H2) : tIfS (tOr t u) a b D σ H := h key
theorem nx_intro {a : L2.St → Hp → Prop} {rt : VK} {bk ct : L2.St → Hp → Prop} {σ : L2.St} {H : Hp} (h : a σ H) : Ends.nx ⟨a, rt, bk, ct⟩ σ H := h
def errO : Err ⊕ Page → Option Err
  | .inl e => some e
  | .inr _ => none
def pgO (pg : Page) : Err ⊕ Page → Page
  | .inl _ => pg
  | .inr p => p
abbrev s_l_many : Stmt := top 80
theorem sc_l_many : FnScope ["_law_jug_here", "_law_page", "_law_deeds", "_law_pages", "_law_due", "_law_turn", "_law_deed", "_law_error_here", "_law_later"] ["_law_jug_here", "_law_page"] (defScope s_l_many) := ⟨rfl, rfl, rfl, by decide +kernel, rfl, by decide +kernel, by decide +kernel⟩
abbrev N_l_many : List Str := ["_law_jug_here", "_law_page", "_law_deeds", "_law_pages", "_law_due", "_law_turn", "_law_deed", "_law_error_here", "_law_later"]
section
variable {P : Program} {w : World} {K : PySem.W.Frag} {mg : Str → Option Value} {base : Heap}
def spMany : Sp := fun vs H Q _ => ∃ (j : Addr) (v : V) (pg : Page) (l : Addr) (n : Nat), vs = [.ref j, v] ∧ JugAt n H j ∧ n + 2000 < 10 ^ 9 ∧ LPageL (wo j H) v pg l ∧ PgOk pg ∧ pg.ws.length ≤ 1000 ∧
  ∀ r H' dl pl ul xs ps ds, But j H H' → JugAt (n + 1000) H' j → H' r = some (.tup [.ref dl, .ref pl, .ref ul]) → H dl = none → wo j H' dl = some (.lst xs) → P2 (DeedAt H') xs ds → (∀ d ∈ ds, DeedOk d) → xs.length ≤ 5 →
    wo j H' pl = some (.lst ps) → P2 (fun v g => ∃ l', l' ≠ dl ∧ LPageL (wo j H') v g l') ps (pg :: (runs pg ds).1) → (∀ g ∈ (runs pg ds).1, PgOk g ∧ g.ws.length ≤ pg.ws.length + 5) → (∀ e, (runs pg ds).2 = some e → e.ok) → wo j H' ul = some (.lst ((dueS (runs pg ds).2).map V.str)) → Q (.ref r) H'
theorem d_l_many (F : At K mg "_law_many" s_l_many) (B : Blt mg) (D_l_pull : Dn P w K mg base CX0 1 "_law_pull" ["_law_jug_here", "_law_top"] spPull) (D_l_new_deed : Dn P w K mg base CX0 5 "_law_new_deed" ["_law_jug_here", "_law_page"] spNewDeed) (D_l_behind : Dn P w K mg base CX0 6 "_law_behind" ["_law_page", "_law_deed"] spBehind) (D_l_told_deed : Dn P w K mg base CX0 2 "_law_told_deed" ["_law_deed"] spTold) : Dn P w K mg base CX0 7 "_law_many" ["_law_jug_here", "_law_page"] spMany := by
  refine F.ok sc_l_many (fun vs H Q E h => ?_) (fun _ _ _ _ _ _ us hl => match us, hl with | [_, _], _ => rfl) (fun f cdv A outer s H vs Q E hr h => ?_)
  · obtain ⟨_, _, _, _, _, rfl, _⟩ := h
    rfl
  obtain ⟨j, v, pg, l, n, rfl, hj, hn, hv, hg, hlen, k⟩ := h
  refine ⟨_, (pss_cons (ps_par3 (i := 2) (j := 3) (l := 4) rfl sc_l_many.nd rfl rfl rfl (by decide) (by decide) (by decide) rfl rfl rfl (pa_cons (pe_lst pa_nil) (pa_cons (pe_lst (pa_cons (pv 1) pa_nil)) (pa_cons (pe_lst pa_nil) pa_nil))) (by rfl))
  (pss_cons (ps_for PassesOwn.never rfl (pi_range1 rfl B.range (pa_cons (pe_fn D_l_pull hr (by decide) rfl (pa_cons (pv 0) (pa_cons pe_int pa_nil))) pa_nil)) (pg_name (i := 5) sc_l_many.nd rfl (.inl rfl))
    (pss_cons (ps_set (i := 6) sc_l_many.nd rfl (.inl rfl) (pe_fn D_l_new_deed hr (by decide) rfl (pa_cons (pv 0) (pa_cons (pe_ix (r := rIxL K) ix_list (pv 3) (pe_un un_neg pe_int) (fun _ _ => rfl)) pa_nil))))
  (pss_cons (ps_asg (pe_fn D_l_behind hr (by decide) rfl (pa_cons (pe_ix (r := rIxL K) ix_list (pv 3) (pe_un un_neg pe_int) (fun _ _ => rfl)) (pa_cons (pv 6) pa_nil))) (pg_tup rfl (pgs_cons (pg_name (i := 7) sc_l_many.nd rfl (.inl rfl)) (pgs_cons (pg_name (i := 8) sc_l_many.nd rfl (.inl rfl)) pgs_nil))))
  (pss_one (ps_if (PW.pt (pw_or (pt_cmpR (op_eqD hr.units) (pv 7) (pe_lst pa_nil) (nomark _)) (pw_or1 (pt_cmpR op_eq (pe_fn D_l_pull hr (by decide) rfl (pa_cons (pv 0) (pa_cons pe_int pa_nil))) pe_int (nomark _))))) (pss_cons (ps_expr (pe_bm PySem.F.plainAttrs_list PySem.F.slot_list_append PySem.F.type_list_append mt_append (pv 2) (pa_cons (pe_fn D_l_told_deed hr (by decide) rfl (pa_cons (pv 6) pa_nil)) pa_nil)))
  (pss_cons (ps_set (i := 4) sc_l_many.nd rfl (.inl rfl) (pe_ifExp (pt_cmpR (op_eqD hr.units) (pv 4) (pe_lst pa_nil) (nomark _)) (pv 7) (pv 4)))
  (pss_one (ps_set (i := 3) sc_l_many.nd rfl (.inl rfl) (pe_op op_cat (pv 3) (pe_ifExp (pt_cmpR (op_eqD hr.units) (pv 4) (pe_lst pa_nil) (nomark _)) (pe_lst (pa_cons (pv 8) pa_nil)) (pe_lst pa_nil))))))) pss_nil)))))
  (pss_one (ps_ret (pe_tup (pa_cons (pv 2) (pa_cons (pv 3) (pa_cons (pv 4) pa_nil)))))))), ?_⟩
  refine ⟨by decide, fun dl hdl => ⟨_, rfl, sz1, fun pl hpl => ⟨by decide, fun ul hul => ?_⟩⟩⟩
  have hdj : dl ≠ j := hj.ne hdl
  have hpj : pl ≠ j := (hj.on (same_new hdl)).ne hpl
  have huj : ul ≠ j := ((hj.on (same_new hdl)).on (same_new hpl)).ne hul
  have hdp : pl ≠ dl := fun z => by rw [z, upd_same] at hpl; cases hpl
  have hdu : ul ≠ dl := fun z => by rw [z, same_new hpl _ _ upd_same] at hul; cases hul
  have S1 : Same H (upd (upd (upd H dl (.lst [])) pl (.lst [v])) ul (.lst [])) := ((same_new hdl).trans (same_new hpl)).trans (same_new hul)
  have hnl : l ≠ dl := fun z => by
    obtain ⟨x, d, e, h1, h2, as, h3, h4⟩ := hv
    rw [z, ] at h3
    rw [wo_same _ _ h3] at hdl
    cases hdl
  have I0 : ManyI H j dl pg 0 (upd (upd (upd H dl (.lst [])) pl (.lst [v])) ul (.lst [])) pl ul [] [v] [] :=
    ⟨But.of S1, wo_at hdj (same_new hul _ _ (same_new hpl _ _ upd_same)), .nil, (fun d hd => by cases hd), Nat.zero_le _, hdp, hdu, wo_at hpj (same_new hul _ _ upd_same), .cons ⟨l, hnl, hv.on (wo_mono S1)⟩ .nil, (fun g hg => by cases hg), wo_at huj upd_same, fun e he => by cases he⟩
  have j1 := hj.on S1
  generalize upd (upd (upd H dl (.lst [])) pl (.lst [v])) ul (.lst []) = H1 at I0 j1
  clear S1 hul hpl
  refine ⟨_, _, _, rfl, _, rfl, j, 6, n, rfl, j1, by decide, by decide, by omega, fun r H2 hr2 b2 j2 => ?_⟩
  refine ⟨(r : Int), rfl, by omega, by omega, ?_⟩
  rw [Int.toNat_natCast]
  refine for_it (walk_range (lo := 0) (n := r)) (fun i σ H3 => JugAt (n + 1 + 102 * i) H3 j ∧ ∃ pl ul xs ps ds, ManyI H j dl pg i H3 pl ul xs ps ds ∧ ∃ t1 t2 t3 t4, σ = [some (.ref j), some v, some (.ref dl), some (.ref pl), some (.ref ul), t1, t2, t3, t4]) ⟨j2, pl, ul, [], [v], [], I0.on j1 b2, none, none, none, none, rfl⟩ (fun _ _ _ _ _ => True.intro) ?_ ?_
  · rintro i y σ H3 H3' hi ⟨j3, pl, ul, xs, ps, ds, I, t1, t2, t3, t4, rfl⟩ ⟨rfl, rfl⟩
    obtain ⟨v', l', hv1, hl1, hv2, hg2, hlen2⟩ := I.last hg
    refine ⟨_, rfl, _, rfl, _, rfl, pl, _, _, v', rfl, rfl, SqL.of (wo_same _ _ I.apl), atI_neg1 hv1, ?_⟩
    refine ⟨j, v', n + 1 + 102 * i, lastP pg (runs pg ds).1, rfl, j3, by omega, hv2.pg, by omega, fun u d H4 b4 j4 hu ok => ?_⟩
    have I4 := I.on j3 b4
    have hv4 := hv2.on b4.wo
    refine ⟨_, rfl, _, rfl, pl, _, _, v', rfl, rfl, SqL.of (wo_same _ _ I4.apl), atI_neg1 hv1, _, rfl, ?_⟩
    refine ⟨v', u, lastP pg (runs pg ds).1, d, l', rfl, hv4.on wo_same, hg2, hu.on wo_same, ok, by omega, fun r5 e v5 H5 S5 hen hr5 hres => ?_⟩
    refine ⟨r5, _, rfl, SqT.of hr5, rfl, _, _, rfl, _, _, rfl, rfl, ?_⟩
    have j5 := j4.on S5
    have I5 := I4.on j4 (But.of S5)
    have he5 : H5 e = some (.lst ((dueS (errO (behind (lastP pg (runs pg ds).1) d))).map V.str)) ∧ ∃ l5, LPageL H5 v5 (pgO (lastP pg (runs pg ds).1) (behind (lastP pg (runs pg ds).1) d)) l5 ∧ l5 ≠ dl := by
      cases eb : behind (lastP pg (runs pg ds).1) d with
      | inl er =>
        rw [eb] at hres
        obtain ⟨g1, rfl⟩ := hres
        exact ⟨g1, l', (hv4.on wo_same).on S5, hl1⟩
      | inr p =>
        rw [eb] at hres
        obtain ⟨g1, l5, g2, g3⟩ := hres
        refine ⟨g1, l5, g2, ?_⟩
        rcases g3 with rfl | g3
        · exact hl1
        · rintro rfl
          rw [wo_same _ _ I4.adl] at g3
          cases g3
    have heo : ∀ e, errO (behind (lastP pg (runs pg ds).1) d) = some e → e.ok := by
      intro e1 h1
      cases eb : behind (lastP pg (runs pg ds).1) d with
      | inl er =>
        rw [eb] at h1
        cases h1
        exact behind_err hg2 ok (by omega) eb
      | inr p => rw [eb] at h1; cases h1
    refine nx_intro ?_
    refine tifor (fun H6 => But j H5 H6 ∧ JugAt (n + 1 + 102 * i + 101) H6 j) ?_ (fun key => ?_)
    · rintro H6 ⟨b6, j6⟩
      obtain ⟨g1, l5, g2, g3⟩ := he5
      have hej : e ≠ j := j5.neL g1 (by
        rw [List.length_map]
        cases errO (behind (lastP pg (runs pg ds).1) d) with
        | none => decide
        | some e => show 2 ≠ 3; decide)
      have hedl : e ≠ dl := fun z => by
        rw [z, wo_same _ _ I4.adl] at hen
        cases hen
      have hu6 : LDeed H6 u d := (hu.on (((But.of S5).trans b6).wo)).on wo_same
      have I6 := I5.on j5 b6
      refine ⟨_, rfl, .inl ⟨rfl, xs, SqL.of (wo_same _ _ I6.adl)⟩, _, rfl, u, d, rfl, hu6, ok, fun u7 H7 S7 hu7 => ?_⟩
      have I7 := I6.on j6 (But.of S7)
      have hdl7 := wo_same _ _ I7.adl
      refine ⟨dl, xs, u7, rfl, rfl, hdl7, ?_, ?_⟩
      · exact Nat.lt_of_le_of_lt I7.len (Nat.lt_trans hi (Nat.lt_trans hr2 (by decide)))
      have j7 := j6.on S7
      have hxr : ∀ y ∈ xs, ∃ a, y = V.ref a := fun y hy => by
        obtain ⟨i', hi', e'⟩ := List.mem_iff_getElem.mp hy
        obtain ⟨d', _, hd'⟩ := I7.ads.get1 (i := i') (a := y) (by rw [List.getElem?_eq_getElem hi', e'])
        obtain ⟨x', _, _, e2, _⟩ := hd'.shape
        exact ⟨x', e2⟩
      have B8 : But dl (wo j H7) (wo j (upd H7 dl (.lst (xs ++ [u7])))) := fun b o hb e => by
        unfold Pp.wo at e ⊢
        split at e
        · cases e
        · rename_i z
          rw [if_neg z, upd_ne hb]
          exact e
      have T8 : TD H7 (upd H7 dl (.lst (xs ++ [u7]))) := TD.but But.upd (fun xs z => by rw [hdl7] at z; cases z) (fun xs z => by rw [hdl7] at z; cases z)
      have bH8 : But j H (upd H7 dl (.lst (xs ++ [u7]))) := fun b o hbj e => by
        rw [upd_ne (ne_of_none e hdl)]
        exact I7.b _ _ hbj e
      have j8 : JugAt (n + 1 + 102 * i + 101) (upd H7 dl (.lst (xs ++ [u7]))) j := by
        obtain ⟨a1, a2, a3, a4, a5⟩ := j7
        exact ⟨a1, a2, a3, by rw [upd_ne (Ne.symm hdj)]; exact a4, a5⟩
      have dl8 : wo j (upd H7 dl (.lst (xs ++ [u7]))) dl = some (.lst (xs ++ [u7])) := wo_at hdj upd_same
      have ds8 : P2 (DeedAt (upd H7 dl (.lst (xs ++ [u7])))) (xs ++ [u7]) (ds ++ [d]) := P2.app (I7.ads.imp fun v d g => g.td T8) (.cons (hu7.td T8) .nil)
      have pl8 : wo j (upd H7 dl (.lst (xs ++ [u7]))) pl = some (.lst ps) := B8 _ _ I7.npl I7.apl
      have ul8 := B8 _ _ I7.nul I7.aul
      have ps8 : P2 (fun v g => ∃ l', l' ≠ dl ∧ LPageL (wo j (upd H7 dl (.lst (xs ++ [u7])))) v g l') ps (pg :: (runs pg ds).1) := I7.aps.imp fun v g ⟨l', n, g⟩ => ⟨l', n, g.but B8 I7.adl hxr n⟩
      have e8 : wo j (upd H7 dl (.lst (xs ++ [u7]))) e = some (.lst ((dueS (errO (behind (lastP pg (runs pg ds).1) d))).map V.str)) := B8 _ _ hedl ((b6.trans (But.of S7)).wo _ _ (wo_at hej g1))
      have v8 : LPageL (wo j (upd H7 dl (.lst (xs ++ [u7])))) v5 (pgO (lastP pg (runs pg ds).1) (behind (lastP pg (runs pg ds).1) d)) l5 := ((g2.wo j5).on (b6.trans (But.of S7)).wo).but B8 I7.adl hxr g3
      generalize upd H7 dl (.lst (xs ++ [u7])) = H8 at *
      have fin : ∀ H9 pl' ul' ps', Same H8 H9 → pl' ≠ dl → ul' ≠ dl → wo j H9 pl' = some (.lst ps') → P2 (fun v g => ∃ l', l' ≠ dl ∧ LPageL (wo j H8) v g l') ps' (pg :: (runs pg (ds ++ [d])).1) → (∀ g ∈ (runs pg (ds ++ [d])).1, PgOk g ∧ g.ws.length ≤ pg.ws.length + (i + 1)) → wo j H9 ul' = some (.lst ((dueS (runs pg (ds ++ [d])).2).map V.str)) → (∀ e, (runs pg (ds ++ [d])).2 = some e → e.ok) →
          JugAt (n + 1 + 102 * (i + 1)) H9 j ∧ ManyI H j dl pg (i + 1) H9 pl' ul' (xs ++ [u7]) ps' (ds ++ [d]) := fun H9 pl' ul' ps' S9 n1 n2 a1 a2 a3 a4 a5 =>
        ⟨(j8.on S9).mono (by omega), ⟨bH8.trans (But.of S9), wo_mono S9 _ _ dl8, ds8.imp fun v d g => g.on S9, (fun d' hd' => by
          rcases List.mem_append.mp hd' with z | z
          · exact I7.ok _ z
          · rw [List.mem_singleton.mp z]; exact ok), by rw [List.length_append]; exact Nat.add_le_add_right I7.len 1, n1, n2, a1, a2.imp fun v g ⟨l', n, g⟩ => ⟨l', n, g.on (wo_mono S9)⟩, a3, a4, a5⟩⟩
      rw [runs_snoc] at fin
      refine ⟨_, rfl, by decide, fun q1 hq1 => ⟨.list ((dueS (runs pg ds).2).map PyData.str), .list [], .lst (SqL.of (same_new hq1 _ _ (wo_same _ _ ul8))) (dp_strs _), .lst (SqL.of upd_same) .nil, strs_shaped _ (due_ok I7.er), by decide +kernel, _, rfl, ?_⟩⟩
      rw [show PyData.eqv (.list ((dueS (runs pg ds).2).map PyData.str)) (.list []) = decide (dueS (runs pg ds).2 = []) from eqv_strs _ []]
      have hlast : ps.length ≤ 6 := by
        have h1 := I7.aps.len
        have h2 := runs_len pg ds
        have h3 := I7.ads.len
        have h4 := I7.len
        rw [List.length_cons] at h1
        omega
      have sz : ps.length + 1 ≤ sizeLine := Nat.le_trans (Nat.succ_le_succ hlast) (by decide)
      cases eo : (runs pg ds).2 with
      | some er0 =>
        rw [eo] at fin ul8
        dsimp only at fin
        refine iteF ⟨_, rfl, _, rfl, _, rfl, by decide, fun q2 hq2 => ⟨.list ((dueS (some er0)).map PyData.str), .list [], .lst (SqL.of (same_new hq2 _ _ (same_new hq1 _ _ (wo_same _ _ ul8)))) (dp_strs _), .lst (SqL.of upd_same) .nil, strs_shaped _ (due_ok (fun e he => I7.er e (by rw [eo]; exact he))), by decide +kernel, _, rfl, ?_⟩⟩
        refine iteF ⟨by decide, fun q3 hq3 => ?_⟩
        refine ⟨pl, q3, _, _, rfl, rfl, same_new hq3 _ _ (same_new hq2 _ _ (same_new hq1 _ _ (wo_same _ _ pl8))), upd_same, Nat.le_of_succ_le sz, fun p2 hp2 => ?_⟩
        have S9 := (((same_new (o := .lst []) hq1).trans (same_new (o := .lst []) hq2)).trans (same_new (o := .lst []) hq3)).trans (same_new (o := .lst (ps ++ [])) hp2)
        have np : p2 ≠ dl := fun z => by rw [z, same_new hq3 _ _ (same_new hq2 _ _ (same_new hq1 _ _ (wo_same _ _ dl8)))] at hp2; cases hp2
        have npj : p2 ≠ j := (((j8.on (same_new hq1)).on (same_new hq2)).on (same_new hq3)).ne hp2
        have := fin _ p2 ul (ps ++ []) S9 np I7.nul (wo_at npj upd_same) (by rw [List.append_nil]; exact ps8) (fun g hg => ⟨(I7.gs g hg).1, Nat.le_succ_of_le (I7.gs g hg).2⟩) (by rw [eo]; exact wo_mono S9 _ _ ul8) (fun e he => I7.er e he)
        exact ⟨this.1, p2, ul, _, _, _, this.2, _, _, _, _, rfl⟩
      | none =>
        rw [eo] at fin ul8
        dsimp only at fin
        refine iteT ⟨_, rfl, _, rfl, _, rfl, by decide, fun q2 hq2 => ⟨.list ((dueS (errO (behind (lastP pg (runs pg ds).1) d))).map PyData.str), .list [], .lst (SqL.of (same_new hq2 _ _ (same_new hq1 _ _ (wo_same _ _ e8)))) (dp_strs _), .lst (SqL.of upd_same) .nil, strs_shaped _ (due_ok heo), by decide +kernel, _, rfl, ?_⟩⟩
        rw [show PyData.eqv (.list ((dueS (errO (behind (lastP pg (runs pg ds).1) d))).map PyData.str)) (.list []) = decide (dueS (errO (behind (lastP pg (runs pg ds).1) d)) = []) from eqv_strs _ []]
        have hbo : ∀ p, behind (lastP pg (runs pg ds).1) d = .inr p → PgOk p ∧ p.ws.length ≤ pg.ws.length + (i + 1) := fun p hp => by
          have := behind_ok hg2 ok (by omega) hp
          exact ⟨this.1, by omega⟩
        cases eb : behind (lastP pg (runs pg ds).1) d with
        | inl er =>
          rw [eb] at fin e8 heo
          dsimp only at fin
          refine iteF ⟨by decide, fun q3 hq3 => ?_⟩
          refine ⟨pl, q3, _, _, rfl, rfl, same_new hq3 _ _ (same_new hq2 _ _ (same_new hq1 _ _ (wo_same _ _ pl8))), upd_same, Nat.le_of_succ_le sz, fun p2 hp2 => ?_⟩
          have S9 := (((same_new (o := .lst []) hq1).trans (same_new (o := .lst []) hq2)).trans (same_new (o := .lst []) hq3)).trans (same_new (o := .lst (ps ++ [])) hp2)
          have np : p2 ≠ dl := fun z => by rw [z, same_new hq3 _ _ (same_new hq2 _ _ (same_new hq1 _ _ (wo_same _ _ dl8)))] at hp2; cases hp2
          have npj : p2 ≠ j := (((j8.on (same_new hq1)).on (same_new hq2)).on (same_new hq3)).ne hp2
          have := fin _ p2 e (ps ++ []) S9 np hedl (wo_at npj upd_same) (by rw [List.append_nil]; exact ps8) (fun g hg => ⟨(I7.gs g hg).1, Nat.le_succ_of_le (I7.gs g hg).2⟩) (wo_mono S9 _ _ e8) heo
          exact ⟨this.1, p2, e, _, _, _, this.2, _, _, _, _, rfl⟩
        | inr p =>
          rw [eb] at fin e8 v8
          dsimp only at fin
          refine iteT ⟨_, rfl, sz1, fun q3 hq3 => ?_⟩
          refine ⟨pl, q3, _, _, rfl, rfl, same_new hq3 _ _ (same_new hq2 _ _ (same_new hq1 _ _ (wo_same _ _ pl8))), upd_same, sz, fun p2 hp2 => ?_⟩
          have S9 := (((same_new (o := .lst []) hq1).trans (same_new (o := .lst []) hq2)).trans (same_new (o := .lst [v5]) hq3)).trans (same_new (o := .lst (ps ++ [v5])) hp2)
          have np : p2 ≠ dl := fun z => by rw [z, same_new hq3 _ _ (same_new hq2 _ _ (same_new hq1 _ _ (wo_same _ _ dl8)))] at hp2; cases hp2
          have npj : p2 ≠ j := (((j8.on (same_new hq1)).on (same_new hq2)).on (same_new hq3)).ne hp2
          have := fin _ p2 e (ps ++ [v5]) S9 np hedl (wo_at npj upd_same) (P2.app ps8 (.cons ⟨l5, g3, v8⟩ .nil)) (fun g hg => by
            rcases List.mem_append.mp hg with z | z
            · exact ⟨(I7.gs g z).1, Nat.le_succ_of_le (I7.gs g z).2⟩
            · rw [List.mem_singleton.mp z]; exact hbo p eb) (wo_mono S9 _ _ e8) (fun e he => by cases he)
          exact ⟨this.1, p2, e, _, _, _, this.2, _, _, _, _, rfl⟩
    · obtain ⟨g1, l5, g2, g3⟩ := he5
      refine ⟨_, rfl, by decide, fun q0 hq0 => ⟨.list ((dueS (errO (behind (lastP pg (runs pg ds).1) d))).map PyData.str), .list [], .lst (SqL.of (same_new hq0 _ _ g1)) (dp_strs _), .lst (SqL.of upd_same) .nil, strs_shaped _ (due_ok heo), by decide +kernel, _, rfl, ?_⟩⟩
      cases PyData.eqv (.list ((dueS (errO (behind (lastP pg (runs pg ds).1) d))).map PyData.str)) (.list []) with
      | true => exact iteT (key _ ⟨But.ofU hq0, (j5.on (same_new hq0)).mono (by omega)⟩)
      | false =>
        refine iteF ⟨_, rfl, j, 4, n + 1 + 102 * i + 100, rfl, j5.on (same_new hq0), by decide, by decide, by omega, fun r4 H6 hr4 b6 j6 => ⟨rfl, _, rfl, ?_⟩⟩
        cases decide (V.int (r4 : Int) = V.int 0) with
        | true => exact iteT (key _ ⟨(But.ofU hq0).trans b6, j6⟩)
        | false => exact iteF ⟨j6.mono (by omega), pl, ul, xs, ps, ds, (I5.on j5 ((But.ofU hq0).trans b6)).succ, _, _, _, _, rfl⟩
  · rintro σ H3 ⟨j3, pl, ul, xs, ps, ds, I, t1, t2, t3, t4, rfl⟩
    refine ⟨_, rfl, _, rfl, _, rfl, sz3, fun r' hr' => ?_⟩
    have S4 := same_new (o := .tup [.ref dl, .ref pl, .ref ul]) hr'
    have I4 := I.on j3 (But.of S4)
    exact k r' _ dl pl ul xs ps ds I4.b ((j3.on S4).mono (by omega)) upd_same hdl I4.adl I4.ads I4.ok (Nat.le_trans I4.len (by omega)) I4.apl I4.aps (fun g hg => ⟨(I4.gs g hg).1, Nat.le_trans (I4.gs g hg).2 (by omega)⟩) I4.er I4.aul
end
end Pp
-- G10
namespace Pp
open PySem PySem.Spec PyProof.Rows L2
theorem BadAt.wo {H : Hp} {j : Addr} {v : V} (h : BadAt H v) (n : v ≠ .ref j) : BadAt (wo j H) v := by
  cases h with
  | word h => exact .word (wo_at (fun z => n (by rw [z])) h)
  | len h hm hl => exact .len (wo_at (fun z => n (by rw [z])) h) hm hl
  | nil h => exact .nil (wo_at (fun z => n (by rw [z])) h)
  | lst h => exact .lst (wo_at (fun z => n (by rw [z])) h)
  | str z => exact .str z
  | non => exact .non
  | int i => exact .int i
abbrev s_l_spoilt : Stmt := top 81
theorem sc_l_spoilt : FnScope ["_law_jug_here", "_law_deeds", "_law_at", "_law_some"] ["_law_jug_here", "_law_deeds"] (defScope s_l_spoilt) := ⟨rfl, rfl, rfl, by decide +kernel, rfl, by decide +kernel, by decide +kernel⟩
abbrev N_l_spoilt : List Str := ["_law_jug_here", "_law_deeds", "_law_at", "_law_some"]
def spSpoilt : Sp := fun vs H Q _ => ∃ (j dl : Addr) (n : Nat) (xs : List V), vs = [.ref j, .ref dl] ∧ JugAt n H j ∧ n + 10 < 10 ^ 9 ∧ dl ≠ j ∧ H dl = some (.lst xs) ∧ xs.length ≤ 5 ∧ (∀ y ∈ xs, ∃ a, y = V.ref a) ∧
  ∀ (r q : Addr) (at_ : Nat) (y : V) H', But j H H' → JugAt (n + 2) H' j → H' r = some (.tup [.ref q, .int (at_ : Int)]) → at_ ≤ xs.length → wo j H' q = some (.lst (xs.take at_ ++ [y] ++ xs.drop at_)) → BadAt H' y → Q (.ref r) H'
section
variable {P : Program} {w : World} {K : PySem.W.Frag} {mg : Str → Option Value} {base : Heap}
theorem d_l_spoilt (F : At K mg "_law_spoilt" s_l_spoilt) (B : Blt mg) (D_l_pull : Dn P w K mg base CX0 1 "_law_pull" ["_law_jug_here", "_law_top"] spPull) (D_l_one_of : Dn P w K mg base CX0 2 "_law_one_of" ["_law_jug_here", "_law_some"] spOneOf) : Dn P w K mg base CX0 3 "_law_spoilt" ["_law_jug_here", "_law_deeds"] spSpoilt := by
  refine F.ok sc_l_spoilt (fun vs H Q E h => ?_) (fun _ _ _ _ _ _ us hl => match us, hl with | [_, _], _ => rfl) (fun f cdv A outer s H vs Q E hr h => ?_)
  · obtain ⟨_, _, _, _, rfl, _⟩ := h
    rfl
  obtain ⟨j, dl, n, xs, rfl, hj, hn, hdj, hd, hlen, hxr, k⟩ := h
  refine ⟨_, (pss_cons (ps_set (i := 2) sc_l_spoilt.nd rfl (.inl rfl) (pe_fn D_l_pull hr (by decide) rfl (pa_cons (pv 0) (pa_cons (pe_op op_add (pe_callB (id := "len") call_len_seq (by rfl) B.len (by decide +kernel) (pa_cons (pv 1) pa_nil)) pe_int) pa_nil))))
  (pss_cons (ps_set (i := 3) sc_l_spoilt.nd rfl (.inl rfl) (pe_lst (pa_cons (pe_tup (pa_cons pe_str (pa_cons pe_str pa_nil))) (pa_cons (pe_tup (pa_cons pe_str (pa_cons pe_str (pa_cons (pe_tup (pa_cons pe_int (pa_cons pe_int pa_nil))) pa_nil)))) (pa_cons (pe_tup (pa_cons pe_str pa_nil)) (pa_cons (pe_tup (pa_cons pe_str (pa_cons pe_int (pa_cons pe_int pa_nil)))) (pa_cons (pe_lst (pa_cons pe_str (pa_cons pe_str pa_nil))) (pa_cons (pe_tup pa_nil) (pa_cons pe_str (pa_cons pe_non pa_nil))))))))))
  (pss_one (ps_ret (pe_tup (pa_cons (pe_op op_cat (pe_op op_cat (pe_slice sl_list (pv 1) po_none (po_some (pv 2))) (pe_lst (pa_cons (pe_fn D_l_one_of hr (by decide) rfl (pa_cons (pv 0) (pa_cons (pe_op op_cat (pv 3) (pe_lst (pa_cons (pe_tup (pa_cons pe_str pa_nil)) (pa_cons pe_int pa_nil)))) pa_nil))) pa_nil))) (pe_slice sl_list (pv 1) (po_some (pv 2)) po_none)) (pa_cons (pv 2) pa_nil))))))), ?_⟩
  refine ⟨_, rfl, _, rfl, dl, _, rfl, .inl (SqL.of hd), _, _, rfl, rfl, j, xs.length + 1, n, rfl, hj, by omega, by omega, by omega, fun at_ H1 hat b1 j1 => ?_⟩
  refine ⟨sz2, fun x1 h1 => ⟨sz2, fun x2 h2 => ⟨sz3, fun x3 h3 => ⟨sz1, fun x4 h4 => ⟨sz3, fun x5 h5 => ⟨sz2, fun x6 h6 => ⟨by decide, fun x7 h7 => ⟨(by decide : 8 ≤ sizeLine), fun sl hsl => ?_⟩⟩⟩⟩⟩⟩⟩⟩
  have S1 := (((((((same_new (o := .tup [V.str "put", .str "a"]) h1).trans (same_new (o := .tup [V.int 2, .int 1]) h2)).trans (same_new (o := .tup [V.str "Put", .str "a", .ref x2]) h3)).trans (same_new (o := .tup [V.str "drop"]) h4)).trans (same_new (o := .tup [V.str "lift", .int 0, .int 0]) h5)).trans (same_new (o := .lst [V.str "drop", .str "a"]) h6)).trans (same_new (o := .tup []) h7)).trans (same_new (o := .lst [V.ref x1, .ref x3, .ref x4, .ref x5, .ref x6, .ref x7, .str "drop", .non]) hsl)
  have bad : ∀ x ∈ [V.ref x1, .ref x3, .ref x4, .ref x5, .ref x6, .ref x7, .str "drop", .non], BadAt (upd (upd (upd (upd (upd (upd (upd (upd H1 x1 (.tup [V.str "put", .str "a"])) x2 (.tup [V.int 2, .int 1])) x3 (.tup [V.str "Put", .str "a", .ref x2])) x4 (.tup [V.str "drop"])) x5 (.tup [V.str "lift", .int 0, .int 0])) x6 (.lst [V.str "drop", .str "a"])) x7 (.tup [])) sl (.lst [V.ref x1, .ref x3, .ref x4, .ref x5, .ref x6, .ref x7, .str "drop", .non])) x := by
    intro x hx
    simp only [List.mem_cons, List.not_mem_nil, or_false] at hx
    rcases hx with z | z | z | z | z | z | z | z
    · rw [z]
      exact (BadAt.len (z := "put") (n := 3) (r := [.str "a"]) upd_same (by simp [itemsL]) (by decide)).on ((((((((same_new h2)).trans (same_new h3)).trans (same_new h4)).trans (same_new h5)).trans (same_new h6)).trans (same_new h7)).trans (same_new hsl))
    · rw [z]
      exact (BadAt.word upd_same).on (((((same_new h4).trans (same_new h5)).trans (same_new h6)).trans (same_new h7)).trans (same_new hsl))
    · rw [z]
      exact (BadAt.len (z := "drop") (n := 2) (r := []) upd_same (by simp [itemsL]) (by decide)).on ((((same_new h5).trans (same_new h6)).trans (same_new h7)).trans (same_new hsl))
    · rw [z]
      exact (BadAt.len (z := "lift") (n := 2) (r := [.int 0, .int 0]) upd_same (by simp [itemsL]) (by decide)).on (((same_new h6).trans (same_new h7)).trans (same_new hsl))
    · rw [z]
      exact (BadAt.lst upd_same).on ((same_new h7).trans (same_new hsl))
    · rw [z]
      exact (BadAt.nil upd_same).on (same_new hsl)
    · rw [z]
      exact .str _
    · rw [z]
      exact .non
  have fr : ∀ x ∈ [V.ref x1, .ref x3, .ref x4, .ref x5, .ref x6, .ref x7, .str "drop", .non], x ≠ V.ref j := by
    intro x hx
    have g3 := ((same_new h1).trans (same_new h2)).free h3
    have g4 := (((same_new h1).trans (same_new h2)).trans (same_new h3)).free h4
    have g5 := ((((same_new h1).trans (same_new h2)).trans (same_new h3)).trans (same_new h4)).free h5
    have g6 := (((((same_new h1).trans (same_new h2)).trans (same_new h3)).trans (same_new h4)).trans (same_new h5)).free h6
    have g7 := ((((((same_new h1).trans (same_new h2)).trans (same_new h3)).trans (same_new h4)).trans (same_new h5)).trans (same_new h6)).free h7
    simp only [List.mem_cons, List.not_mem_nil, or_false] at hx
    rcases hx with z | z | z | z | z | z | z | z <;> rw [z] <;> intro e <;> cases e
    · exact j1.ne h1 rfl
    · exact j1.ne g3 rfl
    · exact j1.ne g4 rfl
    · exact j1.ne g5 rfl
    · exact j1.ne g6 rfl
    · exact j1.ne g7 rfl
  have hs1 : upd (upd (upd (upd (upd (upd (upd (upd H1 x1 (.tup [V.str "put", .str "a"])) x2 (.tup [V.int 2, .int 1])) x3 (.tup [V.str "Put", .str "a", .ref x2])) x4 (.tup [V.str "drop"])) x5 (.tup [V.str "lift", .int 0, .int 0])) x6 (.lst [V.str "drop", .str "a"])) x7 (.tup [])) sl (.lst [V.ref x1, .ref x3, .ref x4, .ref x5, .ref x6, .ref x7, .str "drop", .non]) sl = some (.lst [V.ref x1, .ref x3, .ref x4, .ref x5, .ref x6, .ref x7, .str "drop", .non]) := upd_same
  generalize upd (upd (upd (upd (upd (upd (upd (upd H1 x1 (.tup [V.str "put", .str "a"])) x2 (.tup [V.int 2, .int 1])) x3 (.tup [V.str "Put", .str "a", .ref x2])) x4 (.tup [V.str "drop"])) x5 (.tup [V.str "lift", .int 0, .int 0])) x6 (.lst [V.str "drop", .str "a"])) x7 (.tup [])) sl (.lst [V.ref x1, .ref x3, .ref x4, .ref x5, .ref x6, .ref x7, .str "drop", .non]) = H2 at S1 bad hs1
  have hd2 := S1 _ _ (b1 _ _ hdj hd)
  have jj2 := j1.on S1
  have e0 : ∀ {σ : L2.St} {H : Hp} {R : Option Int → Hp → Prop}, R none H → tNoPart σ H R := fun h => h
  refine ⟨_, rfl, ?_⟩
  refine e0 ⟨_, rfl, _, rfl, dl, _, rfl, SqL.of hd2, fun q1 hq1 => ?_⟩
  rw [cut_take] at *
  refine ⟨_, rfl, _, rfl, sz1, fun y1 hy1 => ⟨sz2, fun q2 hq2 => ?_⟩⟩
  have T2 := ((same_new (o := .lst (xs.take at_)) hq1).trans (same_new (o := .tup [V.str "wish"]) hy1)).trans (same_new (o := .lst [V.ref y1, .int 3]) hq2)
  refine ⟨sl, q2, _, _, rfl, rfl, T2 _ _ hs1, upd_same, (by decide : 8 + 2 ≤ sizeLine), fun q3 hq3 => ?_⟩
  have T3 := T2.trans (same_new (o := .lst ([V.ref x1, .ref x3, .ref x4, .ref x5, .ref x6, .ref x7, .str "drop", .non] ++ [V.ref y1, .int 3])) hq3)
  have bad3 : ∀ x ∈ [V.ref x1, .ref x3, .ref x4, .ref x5, .ref x6, .ref x7, .str "drop", .non] ++ [V.ref y1, .int 3], BadAt (upd (upd (upd (upd H2 q1 (.lst (xs.take at_))) y1 (.tup [V.str "wish"])) q2 (.lst [V.ref y1, .int 3])) q3 (.lst ([V.ref x1, .ref x3, .ref x4, .ref x5, .ref x6, .ref x7, .str "drop", .non] ++ [V.ref y1, .int 3]))) x := by
    intro x hx
    rcases List.mem_append.mp hx with z | z
    · exact (bad x z).on T3
    · simp only [List.mem_cons, List.not_mem_nil, or_false] at z
      rcases z with z | z
      · rw [z]
        exact (BadAt.len (z := "wish") (n := 2) (r := []) upd_same (by simp [itemsL]) (by decide)).on ((same_new hq2).trans (same_new hq3))
      · rw [z]
        exact .int _
  have hq13 : upd (upd (upd (upd H2 q1 (.lst (xs.take at_))) y1 (.tup [V.str "wish"])) q2 (.lst [V.ref y1, .int 3])) q3 (.lst ([V.ref x1, .ref x3, .ref x4, .ref x5, .ref x6, .ref x7, .str "drop", .non] ++ [V.ref y1, .int 3])) q1 = some (.lst (xs.take at_)) := same_new hq3 _ _ (same_new hq2 _ _ (same_new hy1 _ _ upd_same))
  have q3j := (jj2.on T2).ne hq3
  have q1j := jj2.ne hq1
  refine ⟨j, q3, _, n + 1, rfl, jj2.on T3, upd_same, q3j, (by decide : 1 ≤ 10), (by decide : 10 ≤ 1000), by omega, fun y H4 hy b4 j4 => ⟨sz1, fun q4 hq4 => ?_⟩⟩
  have hyj : y ≠ V.ref j := by
    rcases List.mem_append.mp hy with z | z
    · exact fr y z
    · simp only [List.mem_cons, List.not_mem_nil, or_false] at z
      rcases z with z | z
      · rw [z]
        intro e
        cases e
        exact j1.ne ((S1.trans (same_new hq1)).free hy1) rfl
      · rw [z]
        intro e
        cases e
  have hbad := (bad3 y hy).wo hyj
  generalize upd (upd (upd (upd H2 q1 (.lst (xs.take at_))) y1 (.tup [V.str "wish"])) q2 (.lst [V.ref y1, .int 3])) q3 (.lst ([V.ref x1, .ref x3, .ref x4, .ref x5, .ref x6, .ref x7, .str "drop", .non] ++ [V.ref y1, .int 3])) = H3 at T3 b4 hbad hq13
  have hq14 := b4 _ _ q1j hq13
  have q4j := j4.ne hq4
  refine ⟨q1, q4, _, _, rfl, rfl, same_new hq4 _ _ hq14, upd_same, ?_, fun q5 hq5 => ?_⟩
  · rw [List.length_take]
    exact Nat.le_trans (show _ ≤ 10 by show min at_ xs.length + 1 ≤ 10; omega) (by decide)
  have T5 := (same_new (o := .lst [y]) hq4).trans (same_new (o := .lst (xs.take at_ ++ [y])) hq5)
  have hd5 := T5 _ _ (b4 _ _ hdj (T3 _ _ hd2))
  refine ⟨_, rfl, _, rfl, _, rfl, ?_⟩
  refine e0 ⟨dl, _, rfl, SqL.of hd5, fun q6 hq6 => ?_⟩
  rw [cut_drop] at *
  refine ⟨q5, q6, _, _, rfl, rfl, same_new hq6 _ _ upd_same, upd_same, ?_, fun q7 hq7 => ⟨_, rfl, sz2, fun r hr' => ?_⟩⟩
  · rw [List.length_append, List.length_take, List.length_drop]
    exact Nat.le_trans (show _ ≤ 20 by show min at_ xs.length + 1 + (xs.length - at_) ≤ 20; omega) (by decide)
  have T8 := ((T5.trans (same_new (o := .lst (xs.drop at_)) hq6)).trans (same_new (o := .lst (xs.take at_ ++ [y] ++ xs.drop at_)) hq7)).trans (same_new (o := .tup [.ref q7, .int (at_ : Int)]) hr')
  have q7j := j4.ne ((T5.trans (same_new hq6)).free hq7)
  exact k r q7 at_ y _ (b1.trans ((But.of (S1.trans T3)).trans (b4.trans (But.of T8)))) (j4.on T8) upd_same (by omega) (wo_at q7j (same_new hr' _ _ upd_same)) ((hbad.on b4.wo).on wo_same |>.on T8)
end
end Pp
-- G11
namespace Pp
open PySem PySem.Spec PyProof.Rows L2
def spJug (K : PySem.W.Frag) : Sp := fun vs H Q _ => ∃ (cl : Addr) (cs : List Int) (k : Nat), vs = [.ref cl, .int (k : Int)] ∧ SqL K H cl (cs.map V.int) ∧ k ≤ 100 ∧ ∀ (l : Addr) H', Same H H' → H l = none → JugAt 0 H' l → Q (.ref l) H'
section
variable {P : Program} {w : World} {K : PySem.W.Frag} {mg : Str → Option Value} {base : Heap}
theorem d_l_jug (F : At K mg "_law_jug" s_l_jug) (B : Blt mg) : Dn P w K mg base CX0 1 "_law_jug" ["_law_cells", "_law_k"] (spJug K) := by
  refine F.ok sc_l_jug (fun vs H Q E h => ?_) (fun _ _ _ _ _ _ us hl => match us, hl with | [_, _], _ => rfl) (fun f cdv A outer s H vs Q E hr h => ?_)
  · obtain ⟨_, _, _, rfl, _⟩ := h
    rfl
  obtain ⟨cl, cs, n, rfl, hc, hn, k⟩ := h
  refine ⟨_, (pss_cons (ps_par (i := 2) (j := 3) rfl sc_l_jug.nd rfl rfl (by decide) rfl rfl (pa_cons (pe_ifExp (pt_cmpR op_lt (pv 1) (pe_callB (id := "len") call_len_seq (by rfl) B.len (by decide +kernel) (pa_cons (pv 0) pa_nil)) (nomark _)) (pe_callTy call_int1 (by rfl) B.int (by decide +kernel) (pa_cons (pe_ix (r := rIxL K) ix_list (pv 0) (pv 1) (fun _ _ => rfl)) pa_nil)) pe_int) (pa_cons (pe_op op_add (pe_op op_mulW pe_int (pe_op op_add (pv 1) pe_int)) pe_int) pa_nil)) (by rfl))
  (pss_cons (ps_for PassesOwn.never rfl (pi_list (pe_slice sl_list (pv 0) po_none (po_some pe_int))) (pg_name (i := 4) sc_l_jug.nd rfl (.inl rfl))
    (pss_one (ps_set (i := 3) sc_l_jug.nd rfl (.inl rfl) (pe_op op_mod (pe_callTy call_int1 (by rfl) B.int (by decide +kernel) (pa_cons (pe_op op_add (pe_op op_add (pe_op op_mulW (pv 3) pe_int) (pe_op op_mod (pe_callTy call_int1 (by rfl) B.int (by decide +kernel) (pa_cons (pv 4) pa_nil)) pe_int)) (pe_op op_mulW pe_int (pv 1))) pa_nil)) pe_int))))
  (pss_cons (ps_set (i := 5) sc_l_jug.nd rfl (.inl rfl) (pe_ifExp (PW.pt (pw_or (pt_cmpR op_lt (pv 2) pe_int (nomark _)) (pw_or1 (pt_cmpR op_ge (pv 2) (pe_op op_pow pe_int pe_int) (nomark _))))) (pe_callB call_abs (by rfl) B.abs (by decide +kernel) (pa_cons (pv 2) pa_nil)) pe_int))
  (pss_one (ps_ret (pe_lst (pa_cons (pv 5) (pa_cons (pe_op op_mod (pe_callTy call_int1 (by rfl) B.int (by decide +kernel) (pa_cons (pe_op op_add (pv 3) (pe_op op_mulW pe_int (pe_op op_mod (pe_callTy call_int1 (by rfl) B.int (by decide +kernel) (pa_cons (pv 2) pa_nil)) pe_int))) pa_nil)) pe_int) (pa_cons pe_int pa_nil))))))))), ?_⟩
  refine ⟨_, rfl, _, rfl, cl, _, rfl, .inl hc, _, _, rfl, rfl, _, rfl, ?_⟩
  have e0 : ∀ {σ : L2.St} {H : Hp} {R : Option Int → Hp → Prop}, R none H → tNoPart σ H R := fun h => h
  have ln : (cs.map V.int).length = cs.length := List.length_map _
  rcases Nat.lt_or_ge n cs.length with c0 | c0
  case' inl =>
    rw [show decide ((n : Int) < ((cs.map V.int).length : Int)) = true from decide_eq_true (by rw [ln]; omega)]
    refine iteT ⟨_, rfl, _, rfl, cl, _, _, .int cs[n], rfl, rfl, hc, atI_nat (by rw [List.getElem?_map, List.getElem?_eq_getElem c0]; rfl), .inl ⟨_, rfl, ?_⟩⟩
  case' inr =>
    rw [show decide ((n : Int) < ((cs.map V.int).length : Int)) = false from decide_eq_false (by rw [ln]; omega)]
    refine iteF ?_
  all_goals
    refine ⟨_, rfl, _, _, rfl, rfl, _, _, rfl, rfl, wide_mul (a := 20) (b := 20) (by decide) (by omega) (by decide) (by decide) (by decide), _, _, rfl, rfl, ?_⟩
    refine ⟨_, _, rfl, _, rfl, ?_⟩
    refine e0 ⟨_, rfl, cl, _, rfl, hc, fun q hq => ?_⟩
    have hq1 : upd H q (.lst (cutV (cs.map V.int) none (some 6))) q = some (.lst (cutV (cs.map V.int) none (some 6))) := upd_same
    have S1 : Same H (upd H q (.lst (cutV (cs.map V.int) none (some 6)))) := same_new hq
    have hint : ∀ y ∈ cutV (cs.map V.int) none (some 6), ∃ z : Int, y = .int z := fun y hy => by
      rw [show cutV (cs.map V.int) none (some 6) = (cs.map V.int).take 6 from cut_take (i := 6)] at hy
      obtain ⟨z, _, e⟩ := List.mem_map.mp (List.mem_of_mem_take hy)
      exact ⟨z, e.symm⟩
    generalize cutV (cs.map V.int) none (some 6) = ys at hq1 S1 hint ⊢
    refine ⟨q, rfl, ⟨_, SqL.of hq1⟩, ?_⟩
    refine for_it (walk_list (K := K) (a := q) (xs := ys)) (fun i σ H3 => Same H H3 ∧ H3 q = some (.lst ys) ∧ ∃ (c m : Int) (t1 t2 : Option V), 0 ≤ m ∧ m < 2147483269 ∧ σ = [some (.ref cl), some (.int (n : Int)), some (.int c), some (.int m), t1, t2]) ⟨S1, hq1, _, _, none, none, ?_, ?_, rfl⟩ (fun i σ H3 _ h => SqL.of h.2.1) ?_ ?_
    · omega
    · omega
    · rintro i y σ H3 H4 hi ⟨S3, h3, c, m, t1, t2, m0, m1, rfl⟩ ⟨rfl, hy⟩
      obtain ⟨z, rfl⟩ := hint y (List.mem_of_getElem? hy)
      refine ⟨_, rfl, _, _, rfl, rfl, wide_mul (a := 32) (b := 17) (by omega) (by decide) (by decide) (by decide) (by decide), _, rfl, .inl ⟨_, rfl, _, _, rfl, rfl, (show (0 : Int) < 1000403 by decide), _, _, rfl, rfl, ?_⟩⟩
      refine ⟨_, rfl, _, _, rfl, rfl, wide_mul (a := 6) (b := 20) (by decide) (by omega) (by decide) (by decide) (by decide), _, _, rfl, rfl, .inl ⟨_, rfl, _, _, rfl, rfl, (show (0 : Int) < 2147483269 by decide), ?_⟩⟩
      exact ⟨S3, h3, c, _, _, _, Int.emod_nonneg _ (by decide), Int.emod_lt_of_pos _ (by decide), rfl⟩
    · rintro σ H3 ⟨S3, h3, c, m, t1, t2, m0, m1, rfl⟩
      have g0 := Int.emod_nonneg c (by decide : (999863 : Int) ≠ 0)
      have g1 := Int.emod_lt_of_pos c (by decide : (0 : Int) < 999863)
      refine ⟨_, rfl, _, _, rfl, rfl, _, rfl, ?_⟩
      by_cases d0 : c < 0
      case' pos =>
        rw [decide_eq_true d0]
        refine iteT ⟨_, rfl, _, rfl, ?_⟩
        have hd : 0 ≤ (if c < 0 then -c else c) := by rw [abs_nat2]; omega
      case' neg =>
        rw [decide_eq_false d0]
        refine iteF ⟨_, rfl, _, _, rfl, rfl, ⟨by decide, by decide, by decide⟩, _, _, rfl, rfl, _, rfl, ?_⟩
        by_cases d1 : (10 : Int) ^ (17 : Int).toNat ≤ c
        case' pos =>
          rw [decide_eq_true d1]
          refine iteT ⟨_, rfl, _, rfl, ?_⟩
          have hd : 0 ≤ (if c < 0 then -c else c) := by rw [abs_nat2]; omega
        case' neg =>
          rw [decide_eq_false d1]
          refine iteF ?_
          have hd : (0 : Int) ≤ 0 := Int.le_refl _
      all_goals
        refine ⟨_, rfl, _, rfl, _, rfl, .inl ⟨_, rfl, _, _, rfl, rfl, (show (0 : Int) < 999863 by decide), _, _, rfl, rfl, wide_mul (a := 16) (b := 20) (by decide) (by omega) (by decide) (by decide) (by decide), _, _, rfl, rfl, .inl ⟨_, rfl, _, _, rfl, rfl, (show (0 : Int) < 2147483269 by decide), sz3, fun l hl => ?_⟩⟩⟩
        exact k l _ (S3.trans (same_new hl)) (S3.free hl) ⟨_, _, _, upd_same, hd, Int.emod_nonneg _ (by decide), Int.emod_lt_of_pos _ (by decide), Int.le_refl _, Int.le_refl _⟩
end
end Pp
-- G12
namespace Pp
open PySem PySem.Spec PyProof.Rows L2
/-- a tuple against the empty one -/
def rEqT0 (K : PySem.W.Frag) : R2 := fun x y H Q => ∃ a b xs, x = .ref a ∧ y = .ref b ∧ SqT K H a xs ∧ SqT K H b [] ∧ Q (.bl (decide (xs.length = 0))) H
theorem op_eqT0 {X : Cx} (hu : X.A.units + 64 < cLine) : OpR X (compareOp .Eq) (rEqT0 X.K) := by
  intro pins s σ H x y v u Q I rx ry h
  obtain ⟨a, b, xs, rfl, rfl, ha, hb, q⟩ := h
  cases (show v = Value.ref a from rx)
  cases (show u = Value.ref b from ry)
  obtain ⟨us, r1, p1, _⟩ := I.tuple ha
  obtain ⟨ws, r2, p2, _⟩ := I.tuple hb
  cases r2
  refine SeqAt.eq_tupleAt (e := fun _ => true) p1 p2 (by omega) (fun j h1 h2 => absurd h2 (by simp)) ?_
  refine ⟨.bl (decide (xs.length = 0)), H, I, ?_, q⟩
  have e := r1.length
  show _ = _
  simp [e]
  cases us <;> rfl
theorem cut_init {xs : List V} : cutV xs none (some (-1)) = xs.take (xs.length - 1) := by
  unfold cutV
  rw [HT.sIx_none, List.drop_zero, Nat.sub_zero]
  have e : HT.sIx xs.length xs.length (some (-1)) = xs.length - 1 := by
    show (if (-1 : Int) < 0 then ((-1 : Int) + (xs.length : Int)).toNat else min (-1 : Int).toNat xs.length) = _
    rw [if_pos (by decide)]
    omega
  rw [e]
abbrev s_Book_undo : Stmt := inClass (top 55) 14
theorem sc_Book_undo : FnScope ["self"] ["self"] (defScope s_Book_undo) := ⟨rfl, rfl, rfl, by decide +kernel, rfl, by decide +kernel, by decide +kernel⟩
abbrev N_Book_undo : List Str := ["self"]
def spUndo (C : Addr) : Sp := fun vs H Q _ => ∃ b pg p past, vs = [.ref b] ∧ BookAt C H b pg (past ++ [p]) ∧ past.length ≤ 2000 ∧ ∀ H', But b H H' → BookAt C H' b p past → Q .non H'
section
variable {P : Program} {w : World} {K : PySem.W.Frag} {mg : Str → Option Value} {base : Heap} {C : Addr}
theorem d_undo (F : AtM K C "undo" "Book.undo" s_Book_undo) (B : Blt mg) (BK : BkT K mg C) : Mn P w K mg base CX0 1 C "undo" ["self"] (spUndo C) := by
  refine F.ok sc_Book_undo (fun vs H Q E h => ?_) (fun _ _ _ _ _ _ us hl => match us, hl with | [_], _ => rfl) (fun f cdv A outer s H vs Q E hr h => ?_)
  · obtain ⟨_, _, _, _, rfl, _⟩ := h
    rfl
  obtain ⟨b, pg, p, past, rfl, hb, hpl, k⟩ := h
  refine ⟨_, (pss_cons (ps_if (pt_cmpR (op_eqT0 hr.units) (pe_fld (pv 0) rfl) (pe_tup pa_nil) (nomark _)) (pss_one ps_never) pss_nil)
  (pss_cons (ps_asg (pe_ix (r := rIxT K) ix_tup (pe_fld (pv 0) rfl) (pe_un un_neg pe_int) (fun _ _ => rfl)) (pg_tup rfl (pgs_cons (pg_att (pv 0)) (pgs_cons (pg_att (pv 0)) pgs_nil))))
  (pss_one (ps_fld (pv 0) (pe_slice sl_tupA (pe_fld (pv 0) rfl) po_none (po_some (pe_un un_neg pe_int))) rfl)))), ?_⟩
  obtain ⟨nd, md, pd, ⟨dx, h1⟩, h2, as, h3, h4⟩ := hb
  have la : as.length = past.length + 1 := by rw [h4.len, List.length_append]; rfl
  obtain ⟨a, ha, nd', md', ea, hp⟩ := h4.last (b := p) (by rw [List.length_append]; simp)
  have h5 := h4.take past.length
  rw [List.take_left' rfl] at h5
  refine ⟨_, rfl, b, C, dx, _, _, rfl, h1, BK.cls, BK.nP, lP, by decide, fun q hq => ⟨pd, q, _, rfl, rfl, SqT.of (same_new hq _ _ h3), SqT.of upd_same, _, rfl, ?_⟩⟩
  rw [show decide ((as.map V.ref).length = 0) = false from decide_eq_false (by rw [List.length_map, la]; omega)]
  have S1 : Same H (upd H q (.tup [])) := same_new hq
  generalize upd H q (.tup []) = H1 at S1 ⊢
  have hat : atI (as.map V.ref) (-1) = some (.ref a) := atI_neg1 (by rw [List.length_map, List.getElem?_map, ha]; rfl)
  refine iteF ⟨_, rfl, b, C, dx, _, _, rfl, S1 _ _ h1, BK.cls, BK.nP, lP, _, rfl, pd, _, _, .ref a, rfl, rfl, SqT.of (S1 _ _ h3), hat, ?_⟩
  refine ⟨a, _, rfl, SqT.of (S1 _ _ ea), rfl, _, _, rfl, _, rfl, b, C, dx, _, rfl, S1 _ _ h1, BK.cls, BK.nN, (show 3 < 1000 by decide), ?_⟩
  rw [putN]
  refine ⟨_, _, rfl, _, rfl, b, C, dx, _, rfl, upd_same, BK.cls, BK.nM, (show 3 < 1000 by decide), ?_⟩
  rw [putM, upd_upd]
  have B2 : But b H1 (upd H1 b (.ins C dx [("numbers", .ref nd'), ("made", .ref md'), ("past", .ref pd)])) := But.upd
  have T2 := TD.ins B2 (S1 _ _ h1)
  have hb2 : upd H1 b (.ins C dx [("numbers", .ref nd'), ("made", .ref md'), ("past", .ref pd)]) b = some (.ins C dx [("numbers", .ref nd'), ("made", .ref md'), ("past", .ref pd)]) := upd_same
  generalize upd H1 b (.ins C dx [("numbers", .ref nd'), ("made", .ref md'), ("past", .ref pd)]) = H2 at B2 T2 hb2 ⊢
  have e0 : ∀ {σ : L2.St} {H : Hp} {R : Option Int → Hp → Prop}, R none H → tNoPart σ H R := fun h => h
  have T1 := (TD.of S1).trans T2
  refine ⟨rfl, _, rfl, b, C, dx, _, _, rfl, hb2, BK.cls, BK.nP, lP, ?_⟩
  refine e0 ⟨_, rfl, _, rfl, sl_of (T1.t _ _ h3) fun r H3 S3 hr3 => ?_⟩
  refine ⟨_, rfl, b, C, dx, _, rfl, S3 _ _ hb2, BK.cls, BK.nP, (show 3 < 1000 by decide), ?_⟩
  rw [putP]
  rw [cut_init] at hr3
  have B3 : But b H3 (upd H3 b (.ins C dx [("numbers", .ref nd'), ("made", .ref md'), ("past", .ref r)])) := But.upd
  have T3 := TD.ins B3 (S3 _ _ hb2)
  have T := T1.trans ((TD.of S3).trans T3)
  refine k _ (fun c o hc ho => B3 c o hc (S3 _ _ (B2 c o hc (S1 _ _ ho)))) ⟨nd', md', r, ⟨dx, upd_same⟩, hp.td T, as.take past.length, ?_, h5.imp fun a g ⟨n, m, e1, e2⟩ => ⟨n, m, T.t _ _ e1, e2.td T⟩⟩
  refine T3.t _ _ ?_
  rw [hr3, List.map_take, List.length_map, la]
  rfl
end
end Pp
-- G13
namespace Pp
open PySem PySem.Spec PyProof.Rows L2
/-! defs that are called where no repr is under way: the promise is told of it -/
structure FnG (P : Program) (w : World) (K : PySem.W.Frag) (mg : Str → Option Value) (base : Heap) (cx : CXT) (k : Nat) (f : Addr) (ps : List Str) (sp : Sp) : Prop where
  len : ∀ vs H Q E, sp vs H Q E → vs.length = ps.length
  run : ∀ (A : Around) (outer : List Env) (s : Shared) (H : Hp) (us : List Value) (vs : List V) (Q : VK) (E : XK), Room k A → A.guards = some [] → Env0 P w K mg base A outer s H → Vals vs us → sp vs H Q E →
    codeAny (model P w) A (.call (.ref f) ⟨us, []⟩) (CR cx outer P w H s Q E) s
structure DnG (P : Program) (w : World) (K : PySem.W.Frag) (mg : Str → Option Value) (base : Heap) (cx : CXT) (k : Nat) (x : Str) (ps : List Str) (sp : Sp) : Prop where
  ex : ∃ f, FnG P w K mg base cx k f ps sp ∧ mg x = some (.ref f) ∧ PySem.W.keepIn K (.ref f) = true
section
variable {P : Program} {w : World} {K : PySem.W.Frag} {mg : Str → Option Value} {base : Heap}
theorem fn_ofGc {cx : CXT} {k : Nat} {f : Addr} {x qual : Str} {st : Stmt} {N ps : List Str} {sp : Sp} {oc : Value} {od : Option Addr} {kV doc pm : Value} {an : Option Addr} {cdv ct : Value} {osl : Array (Option Value)}
    (lk : K.lookup f = some ⟨oc, od, .func (PySem.W.fnOf x qual (defArgs st) (defBody st) (defScope st) .none kV doc pm an cdv ct), osl⟩) (hcd : PySem.W.codeIn K cdv qual = true) (S : FnScope N ps (defScope st)) (len : ∀ vs H Q E, sp vs H Q E → vs.length = ps.length)
    (hbd : Binds K (PySem.W.fnOf x qual (defArgs st) (defBody st) (defScope st) .none kV doc pm an cdv ct) ps [])
    (hbody : ∀ (A : Around) (outer : List Env) (s : Shared) (H : Hp) (vs : List V) (Q : VK) (E : XK), Room k (A.deeper (envOfC qual (defScope st) s.heap.objs.size f cdv)) → A.guards = some [] → sp vs H Q E →
      ∃ t, PSs (cxOf cx P w K mg base N qual (defScope st) f cdv A outer s H E) (defBody st) t ∧ t { nx := fun _ H' => Q .non H', rt := Q } (start N vs) H) : FnG P w K mg base cx (k + 1) f ps sp := by
  refine ⟨len, fun A outer s H us vs Q E hr hg e0 r hsp => ?_⟩
  have KX : K.In s.heap := e0.mod.kin.keeps fun b o e => (e0.bs b o e).1
  have lim : s.heap.NoLimit := e0.mod.nolimit.keeps fun b o e => (e0.bs b o e).1
  have hl := len _ _ _ _ hsp
  have hkind : ∀ y ∈ ps.zip us, (defScope st).names.lookup y.1 = some .local ∨ ((defScope st).names.lookup y.1 = some .cell ∧ ((cellsFrom (s.heap.objs.size + 1) (defScope st).names []).lookup y.1).isSome = true) := fun ⟨n, v⟩ hy =>
    (S.par n (List.of_mem_zip hy).1).elim .inl fun q => .inr ⟨q, PySem.W.cellsFrom_some _ _ _ (.inl q)⟩
  have hb := hbd s us KX (by rw [List.append_nil, ← r.length, hl])
  rw [List.append_nil] at hb
  refine codeAny_call_function hr.depth (KX _ _ lk) rfl S.co S.gen rfl (PySem.W.codeRec_of KX hcd) (hb _ _ _ _ ?_)
  refine wpAny_newFunctionEnv_cells S.kind hkind fun env he s1 x => ?_
  subst he
  refine ⟨lim.keeps x.toInCall.keep, codeAny_func ?_⟩
  obtain ⟨t, ht, hq⟩ := hbody A outer s H vs Q E (hr.deeper _) hg hsp
  have I : Inv (cxOf cx P w K mg base N qual (defScope st) f cdv A outer s H E) [] (start N vs) H s1 := inv_start S hr.hd e0 hl r x
  refine wpAny_mono (ht.run [] s1 (start N vs) H _ I hq) (fun fl s' hs => ?_) fun e s' hs => hs
  cases fl with
  | ret u =>
    obtain ⟨v, σ', H', J, rv, q⟩ := hs
    exact ⟨v, H', J.os, J.bare, J.base, J.hok, rv, q⟩
  | next =>
    obtain ⟨σ', H', J, q⟩ := hs
    exact ⟨V.non, H', J.os, J.bare, J.base, J.hok, rfl, q⟩
  | brk =>
    obtain ⟨σ', H', J, q⟩ := hs
    exact q.elim
  | cont =>
    obtain ⟨σ', H', J, q⟩ := hs
    exact q.elim
theorem fn_ofG {cx : CXT} {k : Nat} {f : Addr} {x qual : Str} {st : Stmt} {fd : FuncData} {N ps : List Str} {sp : Sp} (F : Fun K x qual st f fd) (S : FnScope N ps (defScope st)) (len : ∀ vs H Q E, sp vs H Q E → vs.length = ps.length) (hbd : Binds K fd ps [])
    (hbody : ∀ (cdv : Value) (A : Around) (outer : List Env) (s : Shared) (H : Hp) (vs : List V) (Q : VK) (E : XK), Room k (A.deeper (envOfC qual (defScope st) s.heap.objs.size f cdv)) → A.guards = some [] → sp vs H Q E →
      ∃ t, PSs (cxOf cx P w K mg base N qual (defScope st) f cdv A outer s H E) (defBody st) t ∧ t { nx := fun _ H' => Q .non H', rt := Q } (start N vs) H) : FnG P w K mg base cx (k + 1) f ps sp := by
  obtain ⟨oc, od, kV, doc, pm, an, cdv, ct, osl, rfl, lk, hcd⟩ := F.ex
  exact fn_ofGc lk hcd S len hbd fun A outer s H vs Q E hr hg h => hbody cdv A outer s H vs Q E hr hg h
end
section
variable {X : Cx} {cx : CXT} {k j : Nat} {x : Str} {ps : List Str} {sp : Sp} {E : XK} {p pos : Pos} {e : Expr} {es : List Expr} {t : TA}
theorem pe_fnG (D : DnG X.prog X.w X.K X.mg X.base cx k x ps sp) (hr : Room j X.A) (hk : k ≤ j) (hgd : X.A.guards = some []) (hg : Gl X x) (hx : Passes cx X E) (ha : PA X (e :: es) t) (hdb : (x == ("__debug__" : Str)) = false := by decide)
    (he : starEach (e :: es) X.env = (false, eval e X.env) :: starEach es X.env := by rfl) (hpl : (backTo pos (starEach es X.env)).any (·.1) = false := by rfl) :
    PE X (.Call (.Name x p) (e :: es) [] pos) (tCall sp [] E t) := by
  obtain ⟨f, F, hm, kp⟩ := D.ex
  refine ⟨fun pins s σ H Q I h => ?_⟩
  refine wpAny_Call_Name_kw (ld_glob I hg hm ?_ hdb)
  refine PySem.W.callWith_K (h₀ := X.base) I.ok.mod.kin kp (thn (ha.run pos pins s σ H _ I h) fun us s1 ⟨vs, H1, I1, r, q⟩ => ⟨I1.kIn, ?_⟩) he hpl
  have q' : sp vs H1 Q E := by
    have : sp (vs ++ []) H1 Q E := q
    rw [List.append_nil] at this
    exact this
  refine wpAny_call (codeAny_mono (F.run X.A X.stack s1 H1 us vs Q E (hr.mono hk) hgd I1.env0 r q') fun r s' hq => ?_)
  cases r with
  | error e => exact hx pins σ H1 s1 e s' I1 hq
  | ok fl =>
    cases fl with
    | ret u => exact I1.after hq
    | next => exact hq.elim
    | brk => exact hq.elim
    | cont => exact hq.elim
end
end Pp
-- G14
namespace Pp
open PySem PySem.Spec PyProof.Rows L2
/-- repr of lists and tuples of plain values, nested, where no repr is under way -/
theorem call_reprD {X : Cx} (hg : X.A.guards = some []) (hu : X.A.units + 64 < cLine) : CallR X (.builtin "repr") (fun xs H Q => ∃ a d, xs = [.ref a] ∧ Dp X.K H (.ref a) d ∧ d.showable = true ∧ d.hasDict = false ∧ d.depth < 60 ∧ d.shown.length ≤ sizeLine ∧ Q (.str d.shown) H) := by
  intro pins s σ H xs us Q I r h
  obtain ⟨a, d, rfl, hd, hs, hn, hp, hz, q⟩ := h
  obtain ⟨u, rfl, rx⟩ := vals1 r
  cases (show u = Value.ref a from rx)
  obtain ⟨as, rd⟩ := Dp.reads I d (.ref a) (.ref a) hd rfl
  refine repr_of_reads' rd hs (fun e => by rw [hn] at e; cases e) hg (by omega) (fun _ _ e => e) (fun h' u tk hk => ?_) hz
  exact ⟨.str d.shown, H, I.kept hk, ⟨u, rfl⟩, q⟩
section
variable {P : Program} {w : World} {K : PySem.W.Frag} {mg : Str → Option Value} {base : Heap}
theorem At.okG {x : Str} {st : Stmt} {N ps : List Str} {k : Nat} {sp : Sp} {cx : CXT} (F : At K mg x st) (S : FnScope N ps (defScope st)) (len : ∀ vs H Q E, sp vs H Q E → vs.length = ps.length)
    (hb : ∀ (kV doc pm : Value) (an : Option Addr) (cdv ct : Value) (us : List Value), us.length = ps.length → bindArgs (PySem.W.fnOf x x (defArgs st) (defBody st) (defScope st) .none kV doc pm an cdv ct) ⟨us, []⟩ = pure (ps.zip us))
    (hbody : ∀ (f : Addr) (cdv : Value) (A : Around) (outer : List Env) (s : Shared) (H : Hp) (vs : List V) (Q : VK) (E : XK), Room k (A.deeper (envOfC x (defScope st) s.heap.objs.size f cdv)) → A.guards = some [] → sp vs H Q E →
      ∃ t, PSs (cxOf cx P w K mg base N x (defScope st) f cdv A outer s H E) (defBody st) t ∧ t { nx := fun _ H' => Q .non H', rt := Q } (start N vs) H) : DnG P w K mg base cx (k + 1) x ps sp := by
  obtain ⟨f, fd, F, hm⟩ := F.ex
  exact ⟨f, fn_ofG F S len (F.binds hb) (hbody f), hm, F.kp⟩
end
end Pp
-- G15
namespace Pp
open PySem PySem.W PySem.Spec PySem.Calls PyProof.Rows Builtin
section
variable {prog : Program} {w : World} {A : Around} {E : Value → Shared → Prop} {s : Shared} {K : Frag} {x C L f : Addr} {h₀ : Heap} {m : Str → Option Value} {ox : Obj} {od : Option Obj}
/-- bool(o), o of an own class with __len__ and no __bool__ -/
theorem truthy_lenK {Q : Bool → Shared → Prop} (F : Fr h₀ L s.heap m) (X₀ : K.In h₀) (I : InstAt s.heap x ox C od) (hs : findIn K (.ref C) "__bool__" = some none) (hl : findIn K (.ref C) "__len__" = some (some (.ref f))) (hf : isFn K (.ref f) = true)
    (h : wpAny (model prog w) A.in1 (call (.ref f) [.ref x]) (PySem.W.LenBack fun v s' => ∃ n u, v = .int n u ∧ Q (n != 0) s') E s) : wpAny (model prog w) A (truthy (.ref x)) Q E s := by
  have X := X₀.keeps F.keep
  have key : wpAny (model prog w) A (runValue (.builtin "len" ⟨[.ref x], []⟩)) (fun r s' => ∃ n u, r = Value.int n u ∧ Q (n != 0) s') E s := by
    refine wpAny_runValue (codeAny_builtin entry_len ?_)
    rw [Around.under_plainId plain_len _]
    unfold Builtin.«len»
    refine wpAny_bind (m := oneArg "len" _) (wpAny_pure ?_)
    refine wpAny_bind (m := callSpecial? (.ref x) (Str.ofString "__len__")) (special_fn X I hl (beq_iff_eq.mp hf) (wpAny_mono h (fun r s' hr => ?_) fun _ _ y => y))
    cases r <;> first | exact hr.elim | skip
    rename_i n u
    obtain ⟨⟨h0, h1⟩, hq⟩ := hr
    refine wpAny_bind (wpAny_holding (wpAny_pure ?_))
    refine wpAny_bind (wpAny_letGo ?_)
    show wpAny _ _ (if n < 0 then _ else _) _ _ _
    rw [if_neg (by omega)]
    show wpAny _ _ (if n ≥ 2 ^ 63 then _ else _) _ _ _
    rw [if_neg (by omega)]
    exact wpAny_bind (wpAny_mkInt (wpAny_pure hq))
  unfold truthy
  refine wpAny_bind (m := callSpecial? (.ref x) (Str.ofString "__bool__")) (wpAny_bind (wpAny_bind (I.type.here ((looks_findIn X hs).here (wpAny_pure ?_)))))
  refine wpAny_bind (wpAny_bind (I.type.here ((looks_findIn X hl).here ?_)))
  refine wpAny_bind (wpAny_mono key (fun r s' h' => ?_) fun _ _ e => e)
  obtain ⟨n, u, rfl, hq⟩ := h'
  exact wpAny_pure hq
end
end Pp
-- G16
namespace Pp
open PySem PySem.Spec PyProof.Rows L2
section
variable {X : Cx} {cx : CXT} {C : Addr} {k j : Nat} {ps : List Str} {sp : Sp}
theorem room3 {A : Around} (r : Room (k + 1) A) : Room k A.in1.in1.in1 :=
  ⟨r.hd, by have := r.dp; show A.depth + 3 * k + 5 < _; omega, by have := r.un; show A.units + 1 + 1 + 1 + 16 * k + 200 < _; omega⟩
theorem meets_bool {prog : Program} {w : World} {x : Value} : MeetsIn prog w (Builtin.«bool.__new__» ⟨[.type "bool", x], []⟩) (fun A R s => wpAny (model prog w) A.in1 (truthy x) (fun b s' => R (.ok (.ret (.bool b))) s') (fun e s' => R (.error e) s') s) := fun A R s hs => by
  have f1 := PySem.F.conv_sub_bool
  unfold Builtin.«bool.__new__»
  obtain ⟨hp, g, d, tk, os⟩ := s
  repeat (any_goals (first | assumption | exact wpAny_mono hs (fun b s' h => wpAny_pure h) (fun _ _ h => h) | wp_step))
/-- bool(o), o of an own class with __len__ and without __bool__ -/
def rBoolO (C : Addr) (sp : Sp) : List V → Hp → VK → Prop := fun xs H Q => ∃ a dx fs, xs = [.ref a] ∧ H a = some (.ins C dx fs) ∧ sp [.ref a] H (fun v H' => ∃ n : Int, v = .int n ∧ (0 ≤ n ∧ n < 2 ^ 63) ∧ Q (.bl (n != 0)) H') E0
theorem call_boolO (D : Mn X.prog X.w X.K X.mg X.base CX0 k C "__len__" ps sp) (nb : PySem.W.findIn X.K (.ref C) "__bool__" = some none) (hr : Room j X.A) (hk : k + 1 ≤ j) : CallR X (.type "bool") (rBoolO C sp) := by
  intro pins s σ H xs us Q I r h
  obtain ⟨a, dx, fs, rfl, e, q⟩ := h
  obtain ⟨u, rfl, r1⟩ := vals1 r
  obtain rfl : u = Value.ref a := r1
  obtain ⟨g, fd, F, hm, fi, bd⟩ := D.ex
  obtain ⟨od, J⟩ := inst_at I e
  obtain ⟨m0, Fr0⟩ := I.fr
  refine callType_newIn PySem.F.called_bool PySem.F.newNe_bool (PySem.F.typeCall_bool_1 _) (PySem.F.newCall_bool_1 _) (fun obj => PySem.F.args_object_init_2 obj _) PySem.F.entry_bool_new meets_bool ?_
  refine truthy_lenK Fr0 I.ok.mod.kin J nb hm.at_ hm.fn ?_
  have b := bd s [.ref a] I.kIn (by rw [List.append_nil]; exact F.len _ _ _ _ q)
  rw [List.append_nil] at b
  refine wpAny_call (codeAny_mono (F.run X.A.in1.in1.in1 X.stack s H ⟨[.ref a], []⟩ [.ref a] [.ref a] _ E0 (room3 (hr.mono hk)) I.env0.in1.in1.in1 b (.cons (show RelV (.ref a) (Value.ref a) from rfl) .nil) q) fun r s' hq => ?_)
  cases r with
  | error e => exact (pass0 pins σ H s e s' I hq : _)
  | ok fl =>
    cases fl with
    | ret u =>
      obtain ⟨v1, H1, I1, r1, n, e1, hn, q1⟩ := I.after hq
      subst e1
      obtain ⟨tk, rfl⟩ := (show ∃ t, u = Value.int n t from r1)
      exact ⟨hn, n, _, rfl, rfl, .bl (n != 0), H1, I1.tok _, rfl, q1⟩
    | next => exact False.elim hq
    | brk => exact False.elim hq
    | cont => exact False.elim hq
end
end Pp
-- G17a
namespace Pp
open PySem PySem.Spec PyProof.Rows L2
section
variable {X : Cx}
/-- d != {} -/
def rNeD0 : R2 := fun x y H Q => ∃ a b ks, x = .ref a ∧ y = .ref b ∧ H a = some (.dK ks) ∧ H b = some (.dK []) ∧ Q (.bl (!decide (ks.length = 0))) H
theorem op_neD0 (hu : X.A.units < cLine) : OpR X (compareOp .NotEq) rNeD0 := by
  intro pins s σ H x y v u Q I rx ry h
  obtain ⟨a, b, ks, rfl, rfl, ea, eb, q⟩ := h
  obtain rfl : v = Value.ref a := rx
  obtain rfl : u = Value.ref b := ry
  obtain ⟨_, ya, va, ra, da⟩ := (show ObjOk X.prog X.w H s.heap a (.dK ks) from I.hok a _ ea)
  obtain ⟨_, yb, vb, rb, db⟩ := (show ObjOk X.prog X.w H s.heap b (.dK []) from I.hok b _ eb)
  have h1 : va.length = ks.length := ra.length.symm
  have h2 : vb.length = 0 := rb.length.symm
  refine PySem.W.keq_ne (knd := mixKind X.prog X.w) (r := true) ya yb da db hu (fun hl => hits_all rb ra (fun p hp => ?_)) (fin_bl I q ?_)
  · have : ks.length = 0 := by simp [h1, h2] at hl; rw [hl]; rfl
    rw [List.length_eq_zero_iff.mp this] at hp
    cases hp
  · rw [h1, h2, Bool.and_true]
    cases ks with
    | nil => rfl
    | cons _ _ => rfl
end
end Pp
-- G17b
namespace Pp
open PySem PySem.Spec PyProof.Rows L2
/-! what a book tells, as data -/
def wiD : Wi → PyData
  | .spl b A n => .tuple [.str (if b then "splits" else "whole"), .str A, .int (n : Int)]
  | .alw A => .tuple [.str "always", .str A]
  | .alike A B => .tuple [.str "alike", .str A, .str B]
def pgD (ys : List Str) (ws : List Wi) (n m : Nat) (t : Bool) : PyData := .list [.tuple (ys.map .str), .tuple (ws.map wiD), .int (n : Int), .int (m : Int), .bool t]
theorem dp_wi {K : PySem.W.Frag} {H : Hp} {a : Addr} {w : Wi} (h : WiAt H a w) : Dp K H (.ref a) (wiD w) := by
  cases w with
  | spl b A n => exact .tup (SqT.of h) (.cons (.str _) (.cons (.str _) (.cons (.int _) .nil)))
  | alw A => exact .tup (SqT.of h) (.cons (.str _) (.cons (.str _) .nil))
  | alike A B => exact .tup (SqT.of h) (.cons (.str _) (.cons (.str _) (.cons (.str _) .nil)))
theorem dp_ws {K : PySem.W.Frag} {H : Hp} : ∀ {as : List Addr} {ws : List Wi}, P2 (WiAt H) as ws → DpAll K H (as.map V.ref) (ws.map wiD)
  | _, _, .nil => .nil
  | _, _, .cons h t => .cons (dp_wi h) (dp_ws t)
theorem int_short {n : Nat} (h : n ≤ 10 ^ 30) : (PyData.shown (.int (n : Int))).length ≤ 40 := by
  refine Nat.le_trans (toString_length_le (v := (n : Int)) (by omega) (k := 31) (by decide) ?_) (by decide)
  exact_mod_cast Nat.lt_of_le_of_lt h (by decide)
theorem title_cps {A : Str} (h : Title A) : (A.cps.toList.all fun c => decide (c < 16 ^ 8)) = true ∧ A.cps.size ≤ 4 := by
  rcases h with rfl | rfl | rfl <;> decide +kernel
theorem wi_facts {w : Wi} (h : WiOk w) : (wiD w).leavesShort 40 = true ∧ (wiD w).showable = true ∧ (wiD w).hasDict = false ∧ (wiD w).depth ≤ 1 ∧ (wiD w).weight ≤ 130 := by
  cases w with
  | spl b A n =>
    obtain ⟨hA, n1, n2⟩ := h
    obtain ⟨c1, c2⟩ := title_cps hA
    have i1 := int_short n2
    have i2 : n.log2 < 101 := by
      exact Nat.lt_of_lt_of_le ((Nat.log2_lt (by omega)).mpr (Nat.lt_of_le_of_lt n2 p1030)) (by decide)
    refine ⟨?_, ?_, ?_, ?_, ?_⟩
    · cases b <;> simp [wiD, PyData.leavesShort, PyData.leavesShortAll, c1, i1] <;> decide +kernel
    · simp [wiD, PyData.showable, PyData.showableAll]
      omega
    · simp [wiD, PyData.hasDict, PyData.hasDictAll]
    · simp [wiD, PyData.depth, PyData.depthAll]
    · have hw : (wiD (.spl b A n)).weight = (if b then "splits" else "whole" : Str).cps.size + 1 + (A.cps.size + 1 + ((if ((n : Int) == 0) = true then 0 else ((n : Int)).natAbs.log2 + 1) + 1 + 0)) := by
        simp [wiD, PyData.weight, PyData.weightAll]
      have h1 : (if b then "splits" else "whole" : Str).cps.size ≤ 6 := by cases b <;> decide +kernel
      have h2 : (if ((n : Int) == 0) = true then 0 else n.log2 + 1) ≤ 101 := by split <;> omega
      rw [hw, Int.natAbs_natCast]
      generalize (if ((n : Int) == 0) = true then 0 else n.log2 + 1) = g2 at h2 ⊢
      generalize (if b then "splits" else "whole" : Str).cps.size = g1 at h1 ⊢
      omega
  | alw A =>
    obtain ⟨c1, c2⟩ := title_cps h
    refine ⟨?_, ?_, ?_, ?_, ?_⟩
    · simp [wiD, PyData.leavesShort, PyData.leavesShortAll, c1]
      decide +kernel
    · simp [wiD, PyData.showable, PyData.showableAll]
    · simp [wiD, PyData.hasDict, PyData.hasDictAll]
    · simp [wiD, PyData.depth, PyData.depthAll]
    · have hw : (wiD (.alw A)).weight = ("always" : Str).cps.size + 1 + (A.cps.size + 1 + 0) := rfl
      have h1 : ("always" : Str).cps.size ≤ 6 := by decide +kernel
      rw [hw]
      omega
  | alike A B =>
    obtain ⟨hA, hB⟩ := h
    obtain ⟨c1, c2⟩ := title_cps hA
    obtain ⟨d1, d2⟩ := title_cps hB
    refine ⟨?_, ?_, ?_, ?_, ?_⟩
    · simp [wiD, PyData.leavesShort, PyData.leavesShortAll, c1, d1]
      decide +kernel
    · simp [wiD, PyData.showable, PyData.showableAll]
    · simp [wiD, PyData.hasDict, PyData.hasDictAll]
    · simp [wiD, PyData.depth, PyData.depthAll]
    · have hw : (wiD (.alike A B)).weight = ("alike" : Str).cps.size + 1 + (A.cps.size + 1 + (B.cps.size + 1 + 0)) := rfl
      have h1 : ("alike" : Str).cps.size ≤ 6 := by decide +kernel
      rw [hw]
      omega
theorem ws_facts : ∀ {ws : List Wi}, (∀ w ∈ ws, WiOk w) → PyData.leavesShortAll 40 (ws.map wiD) = true ∧ PyData.showableAll (ws.map wiD) = true ∧ PyData.hasDictAll (ws.map wiD) = false ∧ PyData.depthAll (ws.map wiD) ≤ 1 ∧ PyData.weightAll (ws.map wiD) ≤ 131 * ws.length
  | [], _ => ⟨rfl, rfl, rfl, Nat.zero_le _, Nat.le_refl _⟩
  | w :: ws, h => by
    obtain ⟨a1, a2, a3, a4, a5⟩ := wi_facts (h w List.mem_cons_self)
    obtain ⟨b1, b2, b3, b4, b5⟩ := ws_facts (ws := ws) fun x hx => h x (List.mem_cons_of_mem _ hx)
    refine ⟨?_, ?_, ?_, ?_, ?_⟩
    · show ((wiD w).leavesShort 40 && PyData.leavesShortAll 40 (ws.map wiD)) = true
      rw [a1, b1]; rfl
    · show ((wiD w).showable && PyData.showableAll (ws.map wiD)) = true
      rw [a2, b2]; rfl
    · show ((wiD w).hasDict || PyData.hasDictAll (ws.map wiD)) = false
      rw [a3, b3]; rfl
    · show max (wiD w).depth (PyData.depthAll (ws.map wiD)) ≤ 1
      omega
    · show (wiD w).weight + 1 + PyData.weightAll (ws.map wiD) ≤ 131 * (ws.length + 1)
      omega
theorem ys_facts : ∀ {ys : List Str}, (∀ y ∈ ys, Title y) → PyData.leavesShortAll 40 (ys.map PyData.str) = true ∧ PyData.showableAll (ys.map PyData.str) = true ∧ PyData.hasDictAll (ys.map PyData.str) = false ∧ PyData.depthAll (ys.map PyData.str) ≤ 0 ∧ PyData.weightAll (ys.map PyData.str) ≤ 5 * ys.length
  | [], _ => ⟨rfl, rfl, rfl, Nat.le_refl _, Nat.le_refl _⟩
  | y :: ys, h => by
    obtain ⟨c1, c2⟩ := title_cps (h y List.mem_cons_self)
    obtain ⟨b1, b2, b3, b4, b5⟩ := ys_facts (ys := ys) fun x hx => h x (List.mem_cons_of_mem _ hx)
    refine ⟨?_, ?_, ?_, ?_, ?_⟩
    · show ((y.cps.toList.all fun c => decide (c < 16 ^ 8)) && PyData.leavesShortAll 40 (ys.map PyData.str)) = true
      rw [c1, b1]; rfl
    · show (true && PyData.showableAll (ys.map PyData.str)) = true
      rw [b2]; rfl
    · show (false || PyData.hasDictAll (ys.map PyData.str)) = false
      rw [b3]; rfl
    · show max 0 (PyData.depthAll (ys.map PyData.str)) ≤ 0
      omega
    · show y.cps.size + 1 + PyData.weightAll (ys.map PyData.str) ≤ 5 * (ys.length + 1)
      omega
theorem pg_facts {ys : List Str} {ws : List Wi} {n m : Nat} {t : Bool} (hy : ∀ y ∈ ys, Title y) (hw : ∀ w ∈ ws, WiOk w) (ly : ys.length ≤ 3) (lw : ws.length ≤ 1200) (hn : n ≤ 100000) (hm : m ≤ 100000) :
    (pgD ys ws n m t).showable = true ∧ (pgD ys ws n m t).hasDict = false ∧ (pgD ys ws n m t).depth < 60 ∧ (pgD ys ws n m t).shown.length ≤ sizeLine := by
  obtain ⟨a1, a2, a3, a4, a5⟩ := ws_facts hw
  obtain ⟨b1, b2, b3, b4, b5⟩ := ys_facts hy
  have lg : ∀ k : Nat, k ≤ 100000 → k.log2 < 17 := fun k hk => by
    by_cases z : k = 0
    · subst z; decide
    · exact (Nat.log2_lt z).mpr (Nat.lt_of_le_of_lt hk (by decide))
  have ln := lg n hn
  have lm := lg m hm
  have big : 100000 ≤ 10 ^ 30 := by decide
  have hls : (pgD ys ws n m t).leavesShort 40 = true := by
    show (PyData.leavesShortAll 40 (ys.map PyData.str) && (PyData.leavesShortAll 40 (ws.map wiD) && (decide ((PyData.shown (.int (n : Int))).length ≤ 40) && (decide ((PyData.shown (.int (m : Int))).length ≤ 40) && (true && true))))) = true
    rw [a1, b1, decide_eq_true (int_short (Nat.le_trans hn big)), decide_eq_true (int_short (Nat.le_trans hm big))]
    rfl
  refine ⟨?_, ?_, ?_, ?_⟩
  · show (PyData.showableAll (ys.map PyData.str) && (PyData.showableAll (ws.map wiD) && (decide (((n : Int)).natAbs.log2 < 1920) && (decide (((m : Int)).natAbs.log2 < 1920) && (true && true))))) = true
    rw [a2, b2, Int.natAbs_natCast, Int.natAbs_natCast, decide_eq_true (by omega), decide_eq_true (by omega)]
    rfl
  · show (PyData.hasDictAll (ys.map PyData.str) || (PyData.hasDictAll (ws.map wiD) || (false || (false || (false || false))))) = false
    rw [a3, b3]
    rfl
  · have : (pgD ys ws n m t).depth = max (PyData.depthAll (ys.map PyData.str) + 1) (max (PyData.depthAll (ws.map wiD) + 1) (max 0 (max 0 (max 0 0)))) + 1 := by
      simp [pgD, PyData.depth, PyData.depthAll]
    omega
  · have h1 := PyData.shown_le 40 (by decide) (pgD ys ws n m t) hls
    have h2 : (pgD ys ws n m t).weight = PyData.weightAll (ys.map PyData.str) + 1 + (PyData.weightAll (ws.map wiD) + 1 + ((if ((n : Int) == 0) = true then 0 else ((n : Int)).natAbs.log2 + 1) + 1 + ((if ((m : Int) == 0) = true then 0 else ((m : Int)).natAbs.log2 + 1) + 1 + (0 + 1 + 0)))) := by
      simp [pgD, PyData.weight, PyData.weightAll]
    have h3 : (if ((n : Int) == 0) = true then 0 else ((n : Int)).natAbs.log2 + 1) ≤ 17 := by rw [Int.natAbs_natCast]; split <;> omega
    have h4 : (if ((m : Int) == 0) = true then 0 else ((m : Int)).natAbs.log2 + 1) ≤ 17 := by rw [Int.natAbs_natCast]; split <;> omega
    refine Nat.le_trans h1 (Nat.le_trans (?_ : _ ≤ 10000000) (by decide))
    rw [h2]
    omega
end Pp
-- G17
namespace Pp
open PySem PySem.Spec PyProof.Rows L2
theorem Mn.quiet {P : Program} {w : World} {K : PySem.W.Frag} {mg : Str → Option Value} {base : Heap} {k : Nat} {C : Addr} {m : Str} {ps : List Str} {sp : Sp} (D : Mn P w K mg base (L2N.CX P w) k C m ps sp) : Mn P w K mg base CX0 k C m ps (fun vs H Q _ => sp vs H Q fun _ _ _ => False) := by
  obtain ⟨f, fd, F, hm, fi, b⟩ := D.ex
  refine ⟨f, fd, ⟨fun vs H Q E h => F.len vs H Q _ h, fun A outer s H args us vs Q E hr e0 hb r h => ?_⟩, hm, fi, b⟩
  refine codeAny_mono (F.run A outer s H args us vs Q _ hr e0 hb r h) fun r s' hq => ?_
  cases r with
  | ok fl => cases fl <;> exact hq
  | error e =>
    obtain ⟨_, _, _, _, _, _, _, _, _, _, _, _, h⟩ := hq
    exact h
theorem op_neDK {X : Cx} {K : PySem.W.Frag} (h : X.K = K) (hu : X.A.units + 64 < cLine) : OpR X (compareOp .NotEq) (rNeD K) := h ▸ op_neD hu
/-- the law's shelf is no dict of the book: the book stands when it is locked -/
theorem BookAt.lock {C : Addr} {H : Hp} {b d : Addr} {pg : Page} {past : List Page} {kv : List (Key × V)} {sh : Shelf} {o : HO} (hd : H d = some (.dK kv)) (hr : Rel2 (fun p v => ∃ a, v = .ref a ∧ LPlan H a p) sh kv) (hne : kv ≠ []) (h : BookAt C H b pg past) : BookAt C (L2.upd H d o) b pg past := by
  have key : ∀ nd sh', NDic H nd sh' → nd ≠ d := by
    rintro nd sh' ⟨kv', h1, h2⟩ rfl
    rw [hd] at h1
    cases h1
    cases h2 with
    | nil => exact hne rfl
    | cons hx _ =>
      cases hr with
      | cons hy _ =>
        obtain ⟨a, rfl, ha⟩ := hx
        obtain ⟨a', e, l, hl, _⟩ := hy
        cases e
        have ha : H a = some (.tup _) := ha
        rw [ha] at hl
        have z := (List.cons.inj (List.cons.inj (HO.tup.inj (Option.some.inj hl))).2).1
        cases z
  have tt : ∀ {a : Addr} {xs : List V}, H a = some (.tup xs) → L2.upd H d o a = some (.tup xs) := fun ha => by
    rw [upd_ne (fun z => by rw [z, hd] at ha; cases ha)]
    exact ha
  have nn : ∀ nd sh', NDic H nd sh' → NDic (L2.upd H d o) nd sh' := fun nd sh' hn => by
    have hk := key nd sh' hn
    obtain ⟨kv', h1, h2⟩ := hn
    exact ⟨kv', by rw [upd_ne hk]; exact h1, h2.imp fun p v ⟨a, e, n⟩ => ⟨a, e, tt n⟩⟩
  have ww : ∀ md ws, WsAt H md ws → WsAt (L2.upd H d o) md ws := fun md ws ⟨as, e, r⟩ => ⟨as, tt e, r.imp fun a w n => tt n⟩
  obtain ⟨nd, md, pd, ⟨dx, h1⟩, ⟨h2, h3⟩, as, h4, h5⟩ := h
  exact ⟨nd, md, pd, ⟨dx, by rw [upd_ne (fun z => by rw [z, hd] at h1; cases h1)]; exact h1⟩, ⟨nn _ _ h2, ww _ _ h3⟩, as, tt h4, h5.imp fun a g ⟨n, m, e1, e2, e3⟩ => ⟨n, m, tt e1, nn _ _ e2, ww _ _ e3⟩⟩
def numD (p : Plan) : PyData := .tuple [.int (p.s * (p.t : Int)), .int (p.u : Int)]
theorem num_facts (p : Plan) : SeqAt.shaped (numD p) = true ∧ PyData.eqv (numD p) (numD p) = true := by
  refine ⟨?_, ?_⟩
  · simp [numD, SeqAt.shaped, PyData.canLay0, PyData.canLayAll0, PyData.depth, PyData.depthAll]
  · simp [numD, PyData.eqv, PyData.eqvAll]
abbrev s_l_book_is : Stmt := top 76
theorem sc_l_book_is : FnScope ["_law_book_here", "_law_page", "_law_many_here", "_law_shelf", "_law_wishes_here", "_law_told", "_law_title"] ["_law_book_here", "_law_page", "_law_many_here"] (defScope s_l_book_is) := ⟨rfl, rfl, rfl, by decide +kernel, rfl, by decide +kernel, by decide +kernel⟩
abbrev N_l_book_is : List Str := ["_law_book_here", "_law_page", "_law_many_here", "_law_shelf", "_law_wishes_here", "_law_told", "_law_title"]
def spBookIs (C : Addr) : Sp := fun vs H Q _ => ∃ (b : Addr) (v : V) (n : Nat) (pg : Page) (past : List Page), vs = [.ref b, v, .int (n : Int)] ∧ BookAt C H b pg past ∧ past.length = n ∧ n ≤ 2000 ∧ LPage H v pg ∧ PgOk pg ∧ pg.ws.length ≤ 1100 ∧ ∀ H', Same H H' → Q (.bl true) H'
section
variable {P : Program} {w : World} {K : PySem.W.Frag} {mg : Str → Option Value} {base : Heap} {C : Addr}
theorem d_l_book_is (F : At K mg "_law_book_is" s_l_book_is) (B : Blt mg) (BK : BkT K mg C) (nb : PySem.W.findIn K (.ref C) "__bool__" = some none) (D_p_names : Pn P w K mg base 1 C "names" (spNames C)) (D_p_wishes : Pn P w K mg base 1 C "wishes" (spWishes C)) (D_p_changes : Pn P w K mg base 1 C "changes" (spChanges C))
    (D_m_len : Mn P w K mg base CX0 1 C "__len__" ["self"] (spLen C)) (D_m_get : Mn P w K mg base (L2N.CX P w) 3 C "__getitem__" ["self", "name"] (spGet C mg)) (D_l_pair : Dn P w K mg base CX0 1 "_law_pair" ["_law_sign", "_law_row"] spPair) :
    DnG P w K mg base (L2N.CX P w) 8 "_law_book_is" ["_law_book_here", "_law_page", "_law_many_here"] (spBookIs C) := by
  refine F.okG sc_l_book_is (fun vs H Q E h => ?_) (fun _ _ _ _ _ _ us hl => match us, hl with | [_, _, _], _ => rfl) (fun f cdv A outer s H vs Q E hr hgd h => ?_)
  · obtain ⟨_, _, _, _, _, rfl, _⟩ := h
    rfl
  obtain ⟨b, v, n, pg, past, rfl, hb, hpn, hn, ⟨x, d, l, rfl, hx, hd, hl⟩, hg, hlen, k⟩ := h
  refine ⟨_, (pss_cons (ps_asg (pv 1) (pg_tup rfl (pgs_cons (pg_name (i := 3) sc_l_book_is.nd rfl (.inr rfl)) (pgs_cons (pg_name (i := 4) sc_l_book_is.nd rfl (.inl rfl)) pgs_nil))))
  (pss_cons (ps_set (i := 5) sc_l_book_is.nd rfl (.inl rfl) (pe_lst (pa_cons (pe_pn D_p_names BK.cls hr (by decide) (pv 0) (by rfl)) (pa_cons (pe_pn D_p_wishes BK.cls hr (by decide) (pv 0) (by rfl)) (pa_cons (pe_pn D_p_changes BK.cls hr (by decide) (pv 0) (by rfl)) (pa_cons (pe_callB (id := "len") (call_lenO D_m_len hr (by decide)) (by rfl) B.len (by decide +kernel) (pa_cons (pv 0) pa_nil)) (pa_cons (pe_callTy (call_boolO D_m_len nb hr (by decide)) (by rfl) B.bool (by decide +kernel) (pa_cons (pv 0) pa_nil)) pa_nil)))))))
  (pss_cons (ps_if (pt_cmpR op_ne (pe_callB (id := "repr") (call_reprD (by exact hgd) hr.units) (by rfl) B.repr (by decide +kernel) (pa_cons (pv 5) pa_nil)) (pe_callB (id := "repr") (call_reprD (by exact hgd) hr.units) (by rfl) B.repr (by decide +kernel) (pa_cons (pe_lst (pa_cons (pe_callTy call_tuple_of (by rfl) B.tuple (by decide +kernel) (pa_cons (pe_callB (call_sortedD rfl) (by rfl) B.sorted (by decide +kernel) (pa_cons (pv 3) pa_nil)) pa_nil)) (pa_cons (pe_callTy call_tuple_of (by rfl) B.tuple (by decide +kernel) (pa_cons (pv 4) pa_nil)) (pa_cons (pv 2) (pa_cons (pe_callB (id := "len") call_lenD (by rfl) B.len (by decide +kernel) (pa_cons (pv 3) pa_nil)) (pa_cons (pe_cmpR (op_neD0 hr.units0) (pv 3) pe_dnewK (nomark _)) pa_nil)))))) pa_nil)) (nomark _)) (pss_one (ps_ret pe_bl)) pss_nil)
  (pss_one (ps_ret (pe_cmpR (op_eqD hr.units) (pe_lock (pe_lc (own := [("_law_title", 6)]) (g := gName 6) rfl sc_l_book_is.nd (pi_keys (pv 3)) (blkOk_by (own := [("_law_title", 6)]) (N := N_l_book_is) (sc := defScope s_l_book_is) (by decide +kernel)) (fun _ _ _ _ _ => pg_name (i := 6) sc_l_book_is.nd rfl (Or.inl rfl)) (fun _ _ _ _ _ => pts_one (pt_cmpR (op_neDK (K := K) rfl (by exact hr.units)) (pe_getO D_m_get.quiet hr (by decide) pass0 (pv 0) (pv 6)) (pe_fn D_l_pair hr (by decide) rfl (pa_cons (pe_ix (r := rIxT K) ix_tup (pe_dget (by exact hu_of hr) (pv 3) (pv 6) (fun _ _ => rfl)) pe_int (fun _ _ => rfl)) (pa_cons (pe_ix (r := rIxT K) ix_tup (pe_dget (by exact hu_of hr) (pv 3) (pv 6) (fun _ _ => rfl)) pe_int (fun _ _ => rfl)) pa_nil))) (nomark _))) (fun _ _ _ _ _ => (pv 6)))) (pe_lst pa_nil) (nomark _))))))), ?_⟩
  obtain ⟨nd, md, pd, ⟨dx, h1⟩, h2, h3⟩ := id hb
  have sl : pg.sh.length < 60 := Nat.lt_of_le_of_lt hg.three (by decide)
  refine ⟨_, rfl, x, _, rfl, SqT.of hx, rfl, _, _, rfl, _, _, rfl, rfl, ?_⟩
  refine ⟨_, rfl, b, dx, _, rfl, h1, b, pg, past, rfl, hb, sl, fun ys t H1 hy1 hy2 S1 ht => ?_⟩
  refine ⟨_, rfl, b, dx, _, rfl, S1 _ _ h1, b, pg, past, rfl, hb.on S1, fun md' hmd => ?_⟩
  refine ⟨_, rfl, b, dx, _, rfl, S1 _ _ h1, b, pg, past, rfl, hb.on S1, ?_⟩
  refine ⟨_, rfl, b, dx, _, rfl, S1 _ _ h1, b, pg, past, rfl, hb.on S1, _, rfl, ⟨by omega, by omega⟩, ?_⟩
  refine ⟨_, rfl, b, dx, _, rfl, S1 _ _ h1, b, pg, past, rfl, hb.on S1, _, rfl, ⟨by omega, by omega⟩, (by decide : 5 ≤ sizeLine), fun q hq => ?_⟩
  obtain ⟨as, hm1, hm2⟩ := hmd
  have ey := names_eq hg.ti hg.nd hy1 hy2
  have Sq := same_new (o := .lst [V.ref t, .ref md', .int (past.length : Int), .int (pg.sh.length : Int), .bl ((pg.sh.length : Int) != 0)]) hq
  have tys : ∀ y ∈ ys, Title y := fun y hy => by
    obtain ⟨z, hz, rfl⟩ := List.mem_map.mp (hy1.mem_iff.mp hy)
    exact hg.ti z hz
  have lys : ys.length ≤ 3 := by
    rw [hy1.length_eq, List.length_map]
    exact hg.three
  have fact := pg_facts (n := past.length) (m := pg.sh.length) (t := ((pg.sh.length : Int) != 0)) tys hg.ws lys (by omega) (by omega) (by omega)
  have dps : ∀ zs : List Str, DpAll K (upd H1 q (.lst [V.ref t, .ref md', .int (past.length : Int), .int (pg.sh.length : Int), .bl ((pg.sh.length : Int) != 0)])) (zs.map V.str) (zs.map PyData.str) := fun zs => dp_strs zs
  refine ⟨_, rfl, q, pgD ys pg.ws past.length pg.sh.length ((pg.sh.length : Int) != 0), rfl, .lst (SqL.of upd_same) (.cons (.tup (SqT.of (Sq _ _ ht)) (dps ys)) (.cons (.tup (SqT.of (Sq _ _ hm1)) (dp_ws (hm2.imp fun a w h => Sq _ _ h))) (.cons (.int _) (.cons (.int _) (.cons (.bl _) .nil))))), fact.1, fact.2.1, fact.2.2.1, fact.2.2.2, ?_⟩
  have hqs : Same H (upd H1 q (.lst [V.ref t, .ref md', .int (past.length : Int), .int (pg.sh.length : Int), .bl ((pg.sh.length : Int) != 0)])) := S1.trans Sq
  generalize upd H1 q (.lst [V.ref t, .ref md', .int (past.length : Int), .int (pg.sh.length : Int), .bl ((pg.sh.length : Int) != 0)]) = H2 at hqs
  clear dps Sq
  obtain ⟨kvs, hdk, rr⟩ := id (hd.on hqs)
  have kl := rr.nodup
  obtain ⟨as2, hl1, pw⟩ := hl.on hqs
  refine ⟨_, rfl, d, kvs, pg.sh.map (·.1), rfl, .of hdk, rr.keys, by rw [List.length_map]; omega, fun ys2 p2 hy3 hy4 hp2 => ?_⟩
  have ey2 := names_eq hg.ti hg.nd hy3 hy4
  refine ⟨p2, _, rfl, .inl ⟨SqL.of upd_same, fun l2 hl2 => ?_⟩⟩
  have T2 := (same_new (o := .lst (ys2.map V.str)) hp2).trans (same_new (o := .tup (ys2.map V.str)) hl2)
  refine ⟨_, rfl, l, _, rfl, .inl ⟨SqL.of (T2 _ _ hl1), fun l3 hl3 => ?_⟩⟩
  have T3 := T2.trans (same_new (o := .tup (as2.map V.ref)) hl3)
  refine ⟨_, rfl, _, rfl, d, kvs, rfl, T3 _ _ hdk, ?_⟩
  refine ⟨_, rfl, fun e0 he0 => ⟨d, e0, kvs, rfl, rfl, same_new he0 _ _ (T3 _ _ hdk), upd_same, (by decide : 5 ≤ sizeLine), fun q2 hq2 => ?_⟩⟩
  have S2 := hqs.trans (T3.trans ((same_new (o := .dK []) he0).trans (same_new (o := .lst [V.ref l2, .ref l3, .int (n : Int), .int (kvs.length : Int), .bl (!decide (kvs.length = 0))]) hq2)))
  have T4 := (same_new (o := .dK []) he0).trans (same_new (o := .lst [V.ref l2, .ref l3, .int (n : Int), .int (kvs.length : Int), .bl (!decide (kvs.length = 0))]) hq2)
  have el : (!decide (kvs.length = 0)) = ((pg.sh.length : Int) != 0) := by
    rw [kl]
    cases pg.sh.length with
    | zero => rfl
    | succ k => rfl
  refine ⟨q2, pgD ys pg.ws past.length pg.sh.length ((pg.sh.length : Int) != 0), rfl, .lst (SqL.of upd_same) (.cons (.tup (SqT.of (T4 _ _ (same_new hl3 _ _ upd_same))) ?_) (.cons (.tup (SqT.of (T4 _ _ upd_same)) (dp_ws (pw.imp fun a w h => T4 _ _ (T3 _ _ h)))) (.cons ?_ (.cons ?_ (.cons ?_ .nil))))), fact.1, fact.2.1, fact.2.2.1, fact.2.2.2, ?_⟩
  · rw [ey, ← ey2]
    exact dp_strs ys2
  · rw [← hpn]
    exact .int _
  · rw [kl]
    exact .int _
  · rw [el]
    exact .bl _
  refine ⟨rfl, _, rfl, ?_⟩
  rw [decide_eq_true rfl]
  refine iteF ?_
  generalize upd (upd (upd (upd (upd H2 p2 (.lst (ys2.map V.str))) l2 (.tup (ys2.map V.str))) l3 (.tup (as2.map V.ref))) e0 (.dK [])) q2 (.lst [V.ref l2, .ref l3, .int (n : Int), .int (kvs.length : Int), .bl (!decide (kvs.length = 0))]) = H9 at S2 ⊢
  obtain ⟨kv9, hdk9, rr9⟩ := hd.on S2
  have hb9 := hb.on S2
  have kl9 := rr9.nodup
  have sh3 := hg.three
  refine ⟨d, .dK kv9, hdk9, True.intro, fun od => ?_⟩
  generalize hHf : upd H9 d (.frz od (.dK kv9)) = Hf
  have hnf : Hf d = some (.frz od (.dK kv9)) := by rw [← hHf, upd_same]
  have bf : ∀ c o, c ≠ d → H9 c = some o → Hf c = some o := fun c o hc ho => by rw [← hHf, upd_ne hc]; exact ho
  refine ⟨_, rfl, d, od, rfl, .inl ⟨kv9, hnf, fun D hD => ?_⟩⟩
  refine lc_go (J := Itk d od kv9) (n := kv9.length) (j := 6) (Src.keys hnf) hD (by omega) (fun _ => rfl) (fun i ys G => ys = []) rfl (fun _ _ _ _ _ h => h) ?_ ?_
  · rintro i y ys' H3 hi ⟨ky, vy, e, rfl⟩ _ S3 hys rfl Qe Qn ke kn
    obtain ⟨A', hA, hv⟩ := rel_vals rr9 hg.nd i ky vy e
    subst hA
    obtain ⟨A'', p', hs', e2, a', rfl, l', hl1', hl2'⟩ := rel_get1 rr9 e
    cases e2
    have hne : kv9 ≠ [] := fun z => by rw [z] at hi; exact absurd hi (Nat.not_lt_zero i)
    have hbf : BookAt C H3 b pg past := by
      have := BookAt.lock (o := .frz od (.dK kv9)) hdk9 rr9 hne hb9
      rw [hHf] at this
      exact this.on S3
    obtain ⟨_, _, _, ⟨dx3, h13⟩, _, _⟩ := id hbf
    have lk := look_at hg.nd hs'
    have hp' := hg.sh.look lk
    have fx : ∀ {c : Addr} {xs : List V}, H9 c = some (.tup xs) → Hf c = some (.tup xs) := fun hc => bf _ _ (fun z => by rw [z, hdk9] at hc; cases hc) hc
    have fl : ∀ {c : Addr} {xs : List V}, H9 c = some (.lst xs) → Hf c = some (.lst xs) := fun hc => bf _ _ (fun z => by rw [z, hdk9] at hc; cases hc) hc
    refine ⟨_, rfl, _, rfl, b, dx3, _, rfl, h13, b, A', pg, past, p', rfl, hbf, lk, fun a ha => ?_⟩
    refine ⟨_, rfl, _, rfl, d, _, rfl, .inl ⟨kv9, Sum.inr A', .inr ⟨od, S3 _ _ hnf⟩, rfl, hv.symm⟩, a', _, 0, _, rfl, rfl, SqT.of (S3 _ _ (fx hl1')), rfl, ?_⟩
    refine ⟨_, rfl, _, rfl, d, _, rfl, .inl ⟨kv9, Sum.inr A', .inr ⟨od, S3 _ _ hnf⟩, rfl, hv.symm⟩, a', _, 1, _, rfl, rfl, SqT.of (S3 _ _ (fx hl1')), rfl, ?_⟩
    refine ⟨l', p', rfl, S3 _ _ (fl hl2'), hp'.w, fun c H5 S5 hc => ?_⟩
    obtain ⟨f1, f2⟩ := num_facts p'
    refine ⟨numD p', numD p', .tup (SqT.of (S5 _ _ ha)) (.cons (.int _) (.cons (.int _) .nil)), .tup (SqT.of hc) (.cons (.int _) (.cons (.int _) .nil)), f1, f1, _, rfl, ?_⟩
    rw [f2]
    exact iteF (kn _ S5 rfl)
  · rintro ys' H3 S3 hys _ rfl
    refine ⟨S3 _ _ hnf, ?_⟩
    have SH : Same H9 (upd H3 d (.dK kv9)) := fun c o ho => by
      by_cases z : c = d
      · rw [z, upd_same, ← ho, z, hdk9]
      · rw [upd_ne z]
        exact S3 _ _ (bf _ _ z ho)
    have dD : d ≠ D := ne_of_none hnf hD
    have hDu : upd H3 d (.dK kv9) D = some (.lst []) := by rw [upd_ne (Ne.symm dD)]; exact hys
    generalize upd H3 d (.dK kv9) = Hu at SH hDu ⊢
    refine ⟨by decide, fun e1 he1 => ⟨.list [], .list [], .lst (SqL.of (same_new he1 _ _ hDu)) .nil, .lst (SqL.of upd_same) .nil, by decide +kernel, by decide +kernel, ?_⟩⟩
    rw [show PyData.eqv (.list []) (.list []) = true by simp [PyData.eqv, PyData.eqvAll]]
    exact k _ ((S2.trans SH).trans (same_new he1))
end
end Pp
-- G18
namespace Pp
open PySem PySem.Spec PyProof.Rows L2 NdefX LamX
/-! things for _law_right: lists, tuples, dicts stay -/
def NI (H H' : Hp) : Prop := ∀ a o, H a = some o → (∀ C dx fs, o ≠ .ins C dx fs) → (∀ ps, o ≠ .tbl ps) → H' a = some o
section
variable {H H' H2 : Hp}
theorem NI.tup (S : NI H H') {a : Addr} {xs : List V} (h : H a = some (.tup xs)) : H' a = some (.tup xs) := S _ _ h (fun _ _ _ z => by cases z) fun _ z => by cases z
theorem NI.lst (S : NI H H') {a : Addr} {xs : List V} (h : H a = some (.lst xs)) : H' a = some (.lst xs) := S _ _ h (fun _ _ _ z => by cases z) fun _ z => by cases z
theorem NI.dic (S : NI H H') {a : Addr} {kvs : List (Key × V)} (h : H a = some (.dK kvs)) : H' a = some (.dK kvs) := S _ _ h (fun _ _ _ z => by cases z) fun _ z => by cases z
theorem NI.of (S : Same H H') : NI H H' := fun a o h _ _ => S a o h
theorem NI.trans (a : NI H H') (b : NI H' H2) : NI H H2 := fun c o h n m => b c o (a c o h n m) n m
theorem LPageL.ni {v : V} {pg : Page} {l : Addr} (S : NI H H') (h : LPageL H v pg l) : LPageL H' v pg l := by
  obtain ⟨x, d, e, h1, ⟨kvs, h2, h3⟩, as, h4, h5⟩ := h
  exact ⟨x, d, e, S.tup h1, ⟨kvs, S.dic h2, h3.imp fun p v ⟨a, e, l', g1, g2⟩ => ⟨a, e, l', S.tup g1, S.lst g2⟩⟩, as, S.lst h4, h5.imp fun a w g => S.tup g⟩
/-- pages as the law holds them -/
def LPs (H : Hp) (ps : List V) (gs : List Page) : Prop := P2 (fun v g => ∃ l, LPageL H v g l) ps gs
theorem LPs.ni {ps : List V} {gs : List Page} (S : NI H H') (h : LPs H ps gs) : LPs H' ps gs := P2.imp (fun v g ⟨l, h⟩ => ⟨l, h.ni S⟩) h
theorem LPs.on {ps : List V} {gs : List Page} (S : Same H H') (h : LPs H ps gs) : LPs H' ps gs := h.ni (NI.of S)
end
section
variable {T : List (Addr × Str)} {n m : Nat} {H H' : Hp} {j b C : Addr}
theorem JugAt.nel (J : JugAt n H j) {a : Addr} {o : HO} (h : H a = some o) (k : ∀ xs, o ≠ .lst xs) : a ≠ j := by
  rintro rfl
  obtain ⟨_, _, _, e, _⟩ := J
  rw [h] at e
  exact k _ (Option.some.inj e)
theorem tabs_jug (J : JugAt n H j) (B : But j H H') (h : Tabs T H) : Tabs T H' := fun p hp => by
  obtain ⟨ps, h1, h2, h3⟩ := h p hp
  refine ⟨ps, B _ _ (J.nel h1 (fun _ z => by cases z)) h1, h2, fun pos cv hc => ?_⟩
  obtain ⟨c, e1, e2⟩ := h3 pos cv hc
  exact ⟨c, e1, B _ _ (J.nel e2 (fun _ z => by cases z)) e2⟩
theorem tabs_ins {dx : Addr} {fs : List (Str × V)} (hb : H b = some (.ins C dx fs)) (B : But b H H') (h : Tabs T H) : Tabs T H' := fun p hp => by
  have nb : ∀ {a : Addr} {o : HO}, H a = some o → (∀ C dx fs, o ≠ .ins C dx fs) → a ≠ b := fun ha k z => by
    rw [z, hb] at ha
    exact k _ _ _ (Option.some.inj ha).symm
  obtain ⟨ps, h1, h2, h3⟩ := h p hp
  refine ⟨ps, B _ _ (nb h1 (fun _ _ _ z => by cases z)) h1, h2, fun pos cv hc => ?_⟩
  obtain ⟨c, e1, e2⟩ := h3 pos cv hc
  exact ⟨c, e1, B _ _ (nb e2 (fun _ _ _ z => by cases z)) e2⟩
theorem BookAt.jug {pg : Page} {past : List Page} (J : JugAt n H j) (B : But j H H') (h : BookAt C H b pg past) : BookAt C H' b pg past := by
  obtain ⟨nd, md, pd, ⟨dx, h1⟩, h2, h3⟩ := h
  exact ⟨nd, md, pd, ⟨dx, B _ _ (J.nel h1 (fun _ z => by cases z)) h1⟩, h2.td (J.td B), h3.td (J.td B)⟩
theorem BadAt.jug {v : V} (J : JugAt n H j) (B : But j H H') (J' : JugAt m H' j) (h : BadAt H v) : BadAt H' v := by
  cases h with
  | word h => exact .word (B _ _ (J.nel h (fun _ z => by cases z)) h)
  | len h hm hl => exact .len (B _ _ (J.nel h (fun _ z => by cases z)) h) hm hl
  | nil h => exact .nil (B _ _ (J.nel h (fun _ z => by cases z)) h)
  | @lst x l h =>
    by_cases e : x = j
    · obtain ⟨d, m, c, h1, _⟩ := J'
      exact .lst (by rw [e]; exact h1)
    · exact .lst (B _ _ e h)
  | str z => exact .str z
  | non => exact .non
  | int i => exact .int i
end
/-- a def whose code object is known, called where no repr is under way -/
theorem AtT.okG {P : Program} {w : World} {K : PySem.W.Frag} {mg : Str → Option Value} {base : Heap} {cx : CXT} {x : Str} {st : Stmt} {c : Addr} {N ps : List Str} {k : Nat} {sp : Sp} (F : AtT K mg x st c) (S : FnScope N ps (defScope st)) (len : ∀ vs H Q E, sp vs H Q E → vs.length = ps.length)
    (hb : ∀ (kV doc pm : Value) (an : Option Addr) (cdv ct : Value) (us : List Value), us.length = ps.length → bindArgs (PySem.W.fnOf x x (defArgs st) (defBody st) (defScope st) .none kV doc pm an cdv ct) ⟨us, []⟩ = pure (ps.zip us))
    (hbody : ∀ (f : Addr) (A : Around) (outer : List Env) (s : Shared) (H : Hp) (vs : List V) (Q : VK) (E : XK), Room k (A.deeper (envOfC x (defScope st) s.heap.objs.size f (.ref c))) → A.guards = some [] → sp vs H Q E →
      ∃ t, PSs (cxOf cx P w K mg base N x (defScope st) f (.ref c) A outer s H E) (defBody st) t ∧ t { nx := fun _ H' => Q .non H', rt := Q } (start N vs) H) : DnG P w K mg base cx (k + 1) x ps sp := by
  obtain ⟨f, oc, od, kV, doc, pm, an, ct, osl, lk, hcd, kp, hm⟩ := F.ex
  have Fu : Fun K x x st f _ := fun_mk lk hcd kp
  exact ⟨f, fn_ofGc lk hcd S len (Fu.binds hb) (hbody f), hm, kp⟩
/-- a new book -/
structure MkT (K : PySem.W.Frag) (C : Addr) : Prop where
  makes : PySem.W.makesIn K C = true
  kp : PySem.W.keepIn K (.ref C) = true
theorem pe_mk0 {X : Cx} {C : Addr} {k j : Nat} {sp : Sp} {x : Str} {p pos : Pos} {ps : List Str} (D : Mn X.prog X.w X.K X.mg X.base CX0 k C "__init__" ps sp) (M : MkT X.K C) (hr : Room j X.A) (hk : k + 1 ≤ j) (hg : Gl X x) (hm : X.mg x = some (.ref C)) (hdb : (x == ("__debug__" : Str)) = false := by decide) :
    PE X (.Call (.Name x p) [] [] pos) (tMake C sp [] E0 tNil) := by
  obtain ⟨f, fd, F, hme, fi, b⟩ := D.ex
  exact pe_make0 ⟨M.makes, hme.at_, hme.fn, M.kp⟩ F (hr.mono hk) hg hm b .nil pass0 hdb
/-! after an if -/
theorem tif_join {c : TT} {a b : TS} {D : Ends} {σ : L2.St} {H : Hp} (P : L2.St → Hp → Prop) (key : ∀ σ' H', P σ' H' → D.nx σ' H') (h : (∀ σ' H', P σ' H' → D.nx σ' H') → tIfS c a b D σ H) : tIfS c a b D σ H := h key
/-! looks as data -/
def lookD (z : Nat × List Str) : PyData := .list [.bool true, .int (z.1 : Int), .tuple (z.2.map PyData.str)]
def seenD (l : List (Nat × List Str)) : PyData := .list (l.map lookD)
theorem seen_dp {K : PySem.W.Frag} {H : Hp} {sn : Addr} {l : List (Nat × List Str)} (h : SeenAt H sn l) : Dp K H (.ref sn) (seenD l) := by
  obtain ⟨as, h1, h2⟩ := h
  refine .lst (SqL.of h1) ?_
  clear h1
  induction h2 with
  | nil => exact .nil
  | @cons a z as l hz _ ih =>
    obtain ⟨t, e1, e2⟩ := hz
    exact .cons (.lst (SqL.of e1) (.cons (.bl _) (.cons (.int _) (.cons (.tup (SqT.of e2) (dp_strs _)) .nil)))) ih
theorem seen_shaped {l : List (Nat × List Str)} (h : ∀ z ∈ l, ∀ y ∈ z.2, PyData.strOk y = true) : SeqAt.shaped (seenD l) = true := by
  have key : ∀ l : List (Nat × List Str), (∀ z ∈ l, ∀ y ∈ z.2, PyData.strOk y = true) → PyData.canLayAll0 (l.map lookD) = true ∧ PyData.depthAll (l.map lookD) ≤ 2 := by
    intro l
    induction l with
    | nil => intro _; exact ⟨by simp [PyData.canLayAll0], by simp [PyData.depthAll]⟩
    | cons z l ih =>
      intro h
      obtain ⟨a1, a2⟩ := ih fun z hz => h z (List.mem_cons_of_mem _ hz)
      obtain ⟨b1, b2⟩ := strs_lay z.2 (h z List.mem_cons_self)
      refine ⟨by simp [PyData.canLayAll0, lookD, PyData.canLay0, a1, b1], ?_⟩
      have : PyData.depthAll ((z :: l).map lookD) = max (PyData.depth (lookD z)) (PyData.depthAll (l.map lookD)) := by simp [PyData.depthAll]
      rw [this]
      have e : PyData.depth (lookD z) = 2 := by simp [lookD, PyData.depth, PyData.depthAll, b2]
      omega
  obtain ⟨h1, h2⟩ := key l h
  have e : PyData.depth (seenD l) ≤ 3 := by
    have : PyData.depth (seenD l) = PyData.depthAll (l.map lookD) + 1 := by simp [seenD, PyData.depth]
    omega
  unfold SeqAt.shaped
  have e2 : PyData.canLay0 (seenD l) = true := by simp [seenD, PyData.canLay0, h1]
  rw [e2]
  simp
  omega
theorem canLay_of {d : PyData} (h : SeqAt.shaped d = true) : d.canLay0 = true := by
  unfold SeqAt.shaped at h
  simp at h
  exact h.1
theorem namesOf_ok {sh : Shelf} : ∀ y ∈ namesOf sh, PyData.strOk y = true := fun y hy => by
  have h1 := (List.mem_filter.mp hy).1
  simp only [List.mem_cons, List.not_mem_nil, or_false] at h1
  rcases h1 with rfl | rfl | rfl <;> decide +kernel
theorem looks_ok : ∀ (n : Nat) (gs : List Page), ∀ z ∈ looksFrom n gs, ∀ y ∈ z.2, PyData.strOk y = true
  | _, [], z, hz => by cases hz
  | n, g :: gs, z, hz => by
    rcases List.mem_cons.mp hz with rfl | hz
    · exact namesOf_ok
    · exact looks_ok (n + 1) gs z hz
theorem looks_get : ∀ (n i : Nat) (gs : List Page) (g : Page), gs[i]? = some g → (looksFrom n gs)[i]? = some (n + i, namesOf g.sh)
  | _, _, [], _, h => by simp at h
  | n, 0, q :: r, g, h => by
    have := Option.some.inj h
    subst this
    rfl
  | n, i + 1, q :: r, g, h => by
    have ih := looks_get (n + 1) i r g h
    show (looksFrom (n + 1) r)[i]? = _
    rw [ih, show n + 1 + i = n + (i + 1) by omega]
end Pp
-- G19
namespace Pp
open PySem PySem.Spec PyProof.Rows L2 NdefX LamX
/-- between two calls of do_all: the pages so far, the book at the last of them -/
structure RI (C : Addr) (T : List (Addr × Str)) (H0 : Hp) (j b : Addr) (i : Nat) (H : Hp) (pl : Addr) (ps : List V) (past : List Page) (pg : Page) : Prop where
  k : ∀ a o, a ≠ j → H0 a = some o → (∀ qs, o ≠ .tbl qs) → H a = some o
  nb : H0 b = none
  t : Tabs T H
  bk : BookAt C H b pg past
  pl : wo j H pl = some (.lst ps)
  ps : LPs (wo j H) ps (past ++ [pg])
  ok : ∀ g ∈ past ++ [pg], PgOk g ∧ g.ws.length ≤ 5 * i
  len : past.length ≤ 5 * i
/-- what do_all makes of the things in xs -/
def CallRes (H : Hp) (xs : List V) (pg : Page) (more : List Page) (er : Option Err) : Prop :=
  (∃ i v, xs[i]? = some v ∧ BadAt H v ∧ (∀ (j : Nat) y, j < i → xs[j]? = some y → ∃ d, DeedAt H y d) ∧ more = [] ∧ er = some (.deeds i)) ∨ ∃ ds, P2 (DeedAt H) xs ds ∧ (∀ d ∈ ds, DeedOk d) ∧ more = (runs pg ds).1 ∧ er = (runs pg ds).2
/-- ahead of a call of do_all -/
structure Ahead (C : Addr) (T : List (Addr × Str)) (H0 : Hp) (j b : Addr) (i : Nat) (H : Hp) (pl : Addr) (ps : List V) (past : List Page) (pg : Page) (dl ml ul sn : Addr) (xs ms : List V) (more : List Page) (er : Option Err) : Prop where
  k : ∀ a o, a ≠ j → H0 a = some o → (∀ qs, o ≠ .tbl qs) → H a = some o
  nb : H0 b = none
  ns : ∀ o, H0 sn = some o → ∃ qs, o = .tbl qs
  t : Tabs T H
  bk : BookAt C H b pg past
  seen : H sn = some (.lst [])
  pl : wo sn (wo j H) pl = some (.lst ps)
  ps : LPs (wo sn (wo j H)) ps (past ++ [pg])
  ok : ∀ g ∈ past ++ [pg], PgOk g ∧ g.ws.length ≤ 5 * i
  len : past.length ≤ 5 * i
  dl : wo sn (wo j H) dl = some (.lst xs)
  xl : xs.length ≤ 6
  ml : wo sn (wo j H) ml = some (.lst ms)
  ms : LPs (wo sn (wo j H)) ms (pg :: more)
  ul : wo sn (wo j H) ul = some (.lst ((dueS er).map V.str))
  gs : ∀ g ∈ more, PgOk g ∧ g.ws.length ≤ 5 * (i + 1)
  ln : more.length ≤ 5
  ek : ∀ e, er = some e → e.ok
  res : CallRes H xs pg more er
section
variable {C : Addr} {T : List (Addr × Str)} {H0 H H' : Hp} {j b pl dl ml ul sn : Addr} {i n m : Nat} {ps xs ms : List V} {past more : List Page} {pg : Page} {er : Option Err}
theorem RI.on (J : JugAt n H j) (B : But j H H') (I : RI C T H0 j b i H pl ps past pg) : RI C T H0 j b i H' pl ps past pg :=
  ⟨fun a o hj h0 ht => B a o hj (I.k a o hj h0 ht), I.nb, tabs_jug J B I.t, I.bk.jug J B, B.wo _ _ I.pl, I.ps.on B.wo, I.ok, I.len⟩
theorem CallRes.jug (J : JugAt n H j) (B : But j H H') (J' : JugAt m H' j) (h : CallRes H xs pg more er) : CallRes H' xs pg more er := by
  rcases h with ⟨i, v, e1, e2, e3, e4, e5⟩ | ⟨ds, e1, e2, e3, e4⟩
  · exact .inl ⟨i, v, e1, e2.jug J B J', fun q y hq hy => let ⟨d, hd⟩ := e3 q y hq hy; ⟨d, hd.td (J.td B)⟩, e4, e5⟩
  · exact .inr ⟨ds, e1.imp fun _ _ h => h.td (J.td B), e2, e3, e4⟩
theorem Ahead.sj (I : Ahead C T H0 j b i H pl ps past pg dl ml ul sn xs ms more er) (J : JugAt n H j) : sn ≠ j := J.neL I.seen (by show 0 ≠ 3; decide)
theorem Ahead.on (J : JugAt n H j) (B : But j H H') (J' : JugAt m H' j) (I : Ahead C T H0 j b i H pl ps past pg dl ml ul sn xs ms more er) : Ahead C T H0 j b i H' pl ps past pg dl ml ul sn xs ms more er :=
  have S : Same (wo sn (wo j H)) (wo sn (wo j H')) := wo_mono B.wo
  ⟨fun a o hj h0 ht => B a o hj (I.k a o hj h0 ht), I.nb, I.ns, tabs_jug J B I.t, I.bk.jug J B, B _ _ (I.sj J) I.seen, S _ _ I.pl, I.ps.on S, I.ok, I.len, S _ _ I.dl, I.xl, S _ _ I.ml, I.ms.on S, S _ _ I.ul, I.gs, I.ln, I.ek, I.res.jug J B J'⟩
end
/-- how the call ended, and what the looks noted -/
def EndW (C b sn : Addr) (ends : Nat) (H : Hp) (xs : List V) (past : List Page) (pg : Page) (more : List Page) (er : Option Err) : Hd → Prop
  | .told i => i = xs.length ∧ er = none ∧ ¬ (0 < ends ∧ ends ≤ more.length) ∧ BookAt C H b (lastP pg more) ((past ++ pg :: more).dropLast) ∧ SeenAt H sn (looksFrom (past.length + 1) more)
  | .err e => er = some e ∧ ¬ (0 < ends ∧ ends ≤ more.length) ∧ BookAt C H b pg past ∧ SeenAt H sn (looksFrom (past.length + 1) more)
  | .plain => (0 < ends ∧ ends ≤ more.length) ∧ BookAt C H b pg past ∧ SeenAt H sn ((looksFrom (past.length + 1) more).take ends)
def EndN (C b : Addr) (H : Hp) (xs : List V) (past : List Page) (pg : Page) (more : List Page) (er : Option Err) : Hd → Prop
  | .told i => i = xs.length ∧ er = none ∧ BookAt C H b (lastP pg more) ((past ++ pg :: more).dropLast)
  | .err e => er = some e ∧ BookAt C H b pg past
  | .plain => False
theorem EndW.on {C b sn : Addr} {ends : Nat} {H H' : Hp} {xs : List V} {past : List Page} {pg : Page} {more : List Page} {er : Option Err} {o : Hd} (S : Same H H') (h : EndW C b sn ends H xs past pg more er o) : EndW C b sn ends H' xs past pg more er o := by
  cases o with
  | told i => obtain ⟨h1, h2, h3, h4, h5⟩ := h; exact ⟨h1, h2, h3, h4.on S, h5.on S⟩
  | err e => obtain ⟨h1, h2, h3, h4⟩ := h; exact ⟨h1, h2, h3.on S, h4.on S⟩
  | plain => obtain ⟨h1, h2, h3⟩ := h; exact ⟨h1, h2.on S, h3.on S⟩
theorem EndN.on {C b : Addr} {H H' : Hp} {xs : List V} {past : List Page} {pg : Page} {more : List Page} {er : Option Err} {o : Hd} (S : Same H H') (h : EndN C b H xs past pg more er o) : EndN C b H' xs past pg more er o := by
  cases o with
  | told i => obtain ⟨h1, h2, h3⟩ := h; exact ⟨h1, h2, h3.on S⟩
  | err e => obtain ⟨h1, h2⟩ := h; exact ⟨h1, h2.on S⟩
  | plain => exact h.elim
/-- what is heard of a lambda that captured: at heaps that have its cells, then without them -/
theorem heard_of {FR : Addr → Sp → Prop} {mg : Str → Option Value} {T : List (Addr × Str)} {b sn f : Addr} {H H1 : Hp} {cs : Cs} {sl : Sp} {G : Hd → Hp → Prop} {Q : VK} {E : XK} (hfr : FR f sl) (hfn : IsFn H1 f) (eN : ExtN H H1) (hfree : ∀ c o, cs.lookup c = some o → H1 c = none) (gon : ∀ o H H', Same H H' → G o H → G o H')
    (hrun : ∀ (Q' : VK) (E' : XK), (∀ (i : Nat) H', i < 10000 → KeepS b (some sn) T H1 H' → G (.told i) H' → (∀ c o, cs.lookup c = some o → H' c = none) → Q' (.int (i : Int)) (plusC H' cs)) → (∀ e cls d H', ErrAt mg H' cls d e → e.ok → KeepS b (some sn) T H1 H' → G (.err e) H' → (∀ c o, cs.lookup c = some o → H' c = none) → E' cls d (plusC H' cs)) →
      (∀ d H', KeepS b (some sn) T H1 H' → G .plain H' → (∀ c o, cs.lookup c = some o → H' c = none) → E' (.type "KeyError") d (plusC H' cs)) → sl [] (plusC H1 cs) Q' E')
    (hQ : ∀ r o H3, KeepS b (some sn) T H H3 → H3 r = some (.lst (o.zs.map V.str)) → G o H3 → Q (.ref r) H3) : spHeard FR mg [.ref f] (plusC H1 cs) (fun v H2 => HasC H2 cs ∧ Q v (minusC H2 cs)) E := by
  have sp : ∀ {H' : Hp}, (∀ b o, cs.lookup b = some o → H' b = none) → Same H' (plusC H' cs) := fun hf c o e => plusC_keep hf e
  refine ⟨f, sl, fun o H' => ∃ H2, H' = plusC H2 cs ∧ (∀ c o, cs.lookup c = some o → H2 c = none) ∧ KeepS b (some sn) T H1 H2 ∧ G o H2, rfl, hfr, ?_, fun Q' E' ho he hp => ?_, fun o r H' H'' hR S hr => ?_⟩
  · obtain ⟨oc, od, fd, s, e⟩ := hfn
    exact ⟨oc, od, fd, s, sp hfree _ _ e⟩
  · refine hrun Q' E' (fun i H' hi ks g hf => ho i _ hi ⟨H', rfl, hf, ks, g⟩) (fun e cls d H' hea ok ks g hf => he e cls d _ ?_ ok ⟨H', rfl, hf, ks, g⟩) (fun d H' ks g hf => hp d _ ⟨H', rfl, hf, ks, g⟩)
    exact hea.nx (NX.of (sp hf))
  · obtain ⟨H2, rfl, hf2, ks, g⟩ := hR
    have hc : HasC H'' cs := fun c o e => S _ _ (plusC_in e)
    have S2 : Same H2 (minusC H'' cs) := fun a u e => by
      rw [minusC_out (free_out hf2 e)]
      exact S _ _ (plusC_keep hf2 e)
    refine ⟨hc, hQ r o _ ⟨fun a u h1 h2 e ht => S2 _ _ (ks.k a u h1 h2 (eN a u e ht) ht), ks.t.ext S2⟩ (minusC_keep hc hr (fun _ z => by cases z)) (gon _ _ _ S2 g)⟩
end Pp
-- G20
namespace Pp
open PySem PySem.Spec PyProof.Rows L2 NdefX LamX
section
variable {K : PySem.W.Frag} {mg : Str → Option Value} {FR : Addr → Sp → Prop} {C : Addr} {T : List (Addr × Str)} {H0 H H1 : Hp} {j b pl dl ml ul sn : Addr} {i n : Nat} {ps xs ms : List V} {past more : List Page} {pg : Page} {er : Option Err} {Q' : VK} {E' : XK}
theorem KeepS.some {H H' : Hp} {sn : Addr} (k : KeepS b none T H H') : KeepS b (some sn) T H H' := ⟨fun a o h1 _ e ht => k.k a o h1 (fun d z => by cases z) e ht, k.t⟩
theorem Ahead.pgok (I : Ahead C T H0 j b i H pl ps past pg dl ml ul sn xs ms more er) : PgOk pg ∧ pg.ws.length ≤ 5 * i := I.ok pg (List.mem_append_right _ List.mem_cons_self)
theorem Ahead.at_dl (I : Ahead C T H0 j b i H pl ps past pg dl ml ul sn xs ms more er) : H dl = some (.lst xs) := wo_same _ _ (wo_same _ _ I.dl)
/-- the call with a watch -/
theorem called_run {ends : Nat} (I : Ahead C T H0 j b i H pl ps past pg dl ml ul sn xs ms more er) (hi : i ≤ 100) (eN : ExtN H H1) (T1 : Tabs T H1)
    (ho : ∀ (i : Nat) H', i < 10000 → KeepS b (some sn) T H1 H' → EndW C b sn ends H' xs past pg more er (.told i) → Q' (.int (i : Int)) H')
    (he : ∀ e cls d H', ErrAt mg H' cls d e → e.ok → KeepS b (some sn) T H1 H' → EndW C b sn ends H' xs past pg more er (.err e) → E' cls d H')
    (hp : ∀ d H', KeepS b (some sn) T H1 H' → EndW C b sn ends H' xs past pg more er .plain → E' (.type "KeyError") d H') : spCalled C mg T [.ref b, .ref dl, .int (ends : Int), .ref sn] H1 Q' E' := by
  have nx1 := NX.ext eN
  have st : ∀ {a : Addr} {l : List V}, H a = some (.lst l) → H1 a = some (.lst l) := fun h => nx1 _ _ h (fun _ z => by cases z) (fun _ z => by cases z)
  obtain ⟨g1, g2⟩ := I.pgok
  refine ⟨b, dl, ends, sn, xs, pg, past, rfl, T1, st I.at_dl, I.xl, I.bk.nx nx1, g1, by omega, by have := I.len; omega, ⟨[], st I.seen, .nil⟩, ?_⟩
  rcases I.res with ⟨q, v, e1, e2, e3, e4, e5⟩ | ⟨ds, e1, e2, e3, e4⟩
  · refine .inl ⟨q, v, e1, e2.nx nx1, fun r y hr hy => let ⟨d, hd⟩ := e3 r y hr hy; ⟨d, hd.td nx1.td⟩, fun cls d H' ks hb hs hea => ?_⟩
    refine he (.deeds q) cls d H' hea (I.ek _ e5) ks.some ⟨e5, fun z => ?_, hb, ?_⟩
    · rw [e4] at z
      exact absurd z.2 (by show ¬ ends ≤ 0; omega)
    · rw [e4]
      exact hs
  · subst e3 e4
    refine .inr ⟨ds, e1.imp fun _ _ h => h.td nx1.td, e2, ?_⟩
    unfold DoneC
    by_cases cc : 0 < ends ∧ ends ≤ (runs pg ds).1.length
    · rw [if_pos cc]
      exact fun d H' ks hb hs => hp d H' ks ⟨cc, hb, hs⟩
    · rw [if_neg cc]
      cases er : (runs pg ds).2 with
      | some e => exact fun cls d H' ks hb hs hea => he e cls d H' hea (I.ek _ er) ks ⟨er, cc, hb, hs⟩
      | none =>
        intro H' ks hb hs
        have l := e1.len
        have l6 := I.xl
        exact ho ds.length H' (by omega) ks ⟨l.symm, er, cc, hb, hs⟩
/-- the call without one -/
theorem all_run (I : Ahead C T H0 j b i H pl ps past pg dl ml ul sn xs ms more er) (hi : i ≤ 100) (eN : ExtN H H1) (T1 : Tabs T H1)
    (ho : ∀ (i : Nat) H', i < 10000 → KeepS b (some sn) T H1 H' → EndN C b H' xs past pg more er (.told i) → Q' (.int (i : Int)) H')
    (he : ∀ e cls d H', ErrAt mg H' cls d e → e.ok → KeepS b (some sn) T H1 H' → EndN C b H' xs past pg more er (.err e) → E' cls d H') : spAll FR C mg [.ref b, .ref dl, .non] H1 Q' E' := by
  have nx1 := NX.ext eN
  have st : ∀ {a : Addr} {l : List V}, H a = some (.lst l) → H1 a = some (.lst l) := fun h => nx1 _ _ h (fun _ z => by cases z) (fun _ z => by cases z)
  obtain ⟨g1, g2⟩ := I.pgok
  have hb1 := I.bk.nx nx1
  obtain ⟨nd, md, pd, ⟨dx, hbi⟩, _, _⟩ := id hb1
  refine ⟨b, dl, .non, xs, rfl, st I.at_dl, pg, past, I.xl, hb1, g1, by omega, by have := I.len; omega, ?_⟩
  have kw : ∀ {H' : Hp}, KeepW b none H1 H' → KeepS b (some sn) T H1 H' := fun k => ⟨fun a o h1 _ e _ => k a o h1 (fun d z => by cases z) e, tabs_ins hbi (fun a o h1 e => k a o h1 (fun d z => by cases z) e) T1⟩
  rcases I.res with ⟨q, v, e1, e2, e3, e4, e5⟩ | ⟨ds, e1, e2, e3, e4⟩
  · refine .inl ⟨q, v, e1, e2.nx nx1, fun r y hr hy => let ⟨d, hd⟩ := e3 r y hr hy; ⟨d, hd.td nx1.td⟩, fun cls d H' S hea => ?_⟩
    exact he (.deeds q) cls d H' hea (I.ek _ e5) ⟨fun a o _ _ e _ => S _ _ e, T1.ext S⟩ ⟨e5, hb1.on S⟩
  · subst e3 e4
    refine .inr ⟨ds, none, e1.imp fun _ _ h => h.td nx1.td, e2, .inl ⟨rfl, rfl⟩, ?_⟩
    unfold Done
    cases er : (runs pg ds).2 with
    | some e => exact fun cls d H' ks hb hs hea => he e cls d H' hea (I.ek _ er) (kw ks) ⟨er, hb⟩
    | none =>
      intro H' ks hb hs
      have l := e1.len
      have l6 := I.xl
      exact ho ds.length H' (by omega) (kw ks) ⟨l.symm, er, hb⟩
end
/-! the two lambdas of _law_right -/
def forB : Stmt → List Stmt
  | .For _ _ b _ _ => b
  | _ => []
def ifB : Stmt → List Stmt
  | .If _ b _ _ => b
  | _ => []
def ifO : Stmt → List Stmt
  | .If _ _ b _ => b
  | _ => []
def asgV : Stmt → Expr
  | .Assign _ e _ => e
  | _ => .Constant .none 0 ⟨0, 0, 0, 0⟩
def tupE : Expr → Expr
  | .Tuple es _ _ => es.getD 0 (.Constant .none 0 ⟨0, 0, 0, 0⟩)
  | e => e
def stN (i : Nat) (l : List Stmt) : Stmt := l.getD i (.Pass ⟨0, 0, 0, 0⟩)
abbrev s_l_right : Stmt := top 85
theorem sc_l_right : FnScope ["_law_jug_here", "_law_book_here", "_law_pages", "_law_turn", "_law_deeds", "_law_more", "_law_due", "_law_seen_here", "_law_ends_at", "_law_told", "_law_looks", "_law_at", "_law_k"] ["_law_jug_here"] (defScope s_l_right) := ⟨rfl, rfl, rfl, by decide +kernel, rfl, by decide +kernel, by decide +kernel⟩
abbrev N_l_right : List Str := ["_law_jug_here", "_law_book_here", "_law_pages", "_law_turn", "_law_deeds", "_law_more", "_law_due", "_law_seen_here", "_law_ends_at", "_law_told", "_law_looks", "_law_at", "_law_k"]
abbrev if_right : Stmt := stN 3 (forB (stN 1 (defBody s_l_right)))
abbrev lam_ra : Expr := argE 0 (tupE (asgV (stN 0 (ifB if_right))))
abbrev lam_rc : Expr := argE 0 (asgV (stN 0 (ifO if_right)))
abbrev q_right : Str := ("_law_right" : Str) ++ ".<locals>." ++ "<lambda>"
abbrev fr_ra : List Str := ["_law_book_here", "_law_deeds"]
abbrev fr_rc : List Str := ["_law_book_here", "_law_deeds", "_law_ends_at", "_law_seen_here"]
theorem sc_lam_ra : NScope fr_ra [] fr_ra (lamSc lam_ra) := nscope_by (by decide +kernel)
theorem sc_lam_rc : NScope fr_rc [] fr_rc (lamSc lam_rc) := nscope_by (by decide +kernel)
theorem hf_ra : ∀ y ∈ (lamSc lam_ra).names, y.2 = .free → (defScope s_l_right).names.lookup y.1 = some .cell ∨ (defScope s_l_right).names.lookup y.1 = some .free := by decide +kernel
theorem hf_rc : ∀ y ∈ (lamSc lam_rc).names, y.2 = .free → (defScope s_l_right).names.lookup y.1 = some .cell ∨ (defScope s_l_right).names.lookup y.1 = some .free := by decide +kernel
theorem hr_ra : ∀ y ∈ fr_ra, (y, NameKind.free) ∈ (lamSc lam_ra).names := by decide +kernel
theorem hr_rc : ∀ y ∈ fr_rc, (y, NameKind.free) ∈ (lamSc lam_rc).names := by decide +kernel
abbrev FRh (P : Program) (w : World) (K : PySem.W.Frag) (mg : Str → Option Value) (base : Heap) : Addr → Sp → Prop := fun f sl => FnR P w K mg base (L2N.CX P w) 16 f sl
section
variable {P : Program} {w : World} {K : PySem.W.Frag} {mg : Str → Option Value} {base : Heap} {C : Addr} {T : List (Addr × Str)} {H0 H H1 : Hp} {j b pl dl ml ul sn : Addr} {i n : Nat} {ps xs ms : List V} {past more : List Page} {pg : Page} {er : Option Err} {Q : VK} {E : XK}
/-- heard of the call with a watch -/
theorem heard_rc {ends : Nat} (D_l_called : Dn P w K mg base (L2N.CX P w) 15 "_law_called" ["_law_book_here", "_law_deeds", "_law_ends_at", "_law_seen_here"] (spCalled C mg T)) (I : Ahead C T H0 j b i H pl ps past pg dl ml ul sn xs ms more er) (hi : i ≤ 100)
    {fL c' : Addr} {pm ctv : Value} {cl : List (Str × Addr)} {cs : Cs} (eN : ExtN H H1) (T1 : Tabs T H1) (hfn : H1 fL = some (ObjO fL (lamO ⟨"<lambda>", q_right, lamP lam_rc, [], lamSc lam_rc, cl, c'⟩ (lamB lam_rc) pm ctv))) (hco : H1 c' = some (CodeO c' q_right))
    (L : LamK cl fr_rc [some (.ref b), some (.ref dl), some (.int (ends : Int)), some (.ref sn)] cs) (hfree : ∀ c o, cs.lookup c = some o → H1 c = none)
    (hQ : ∀ r o H3, KeepS b (some sn) T H H3 → H3 r = some (.lst (o.zs.map V.str)) → EndW C b sn ends H3 xs past pg more er o → Q (.ref r) H3) : spHeard (FRh P w K mg base) mg [.ref fL] (plusC H1 cs) (fun v H2 => HasC H2 cs ∧ Q v (minusC H2 cs)) E := by
  let F3 : NF := ⟨"<lambda>", q_right, lamP lam_rc, [], lamSc lam_rc, cl, c'⟩
  let t3 : XK → TE := fun E => tCall (spCalled C mg T) [] E (tCons (tVar 0) (tCons (tVar 1) (tCons (tVar 2) (tCons (tVar 3) tNil))))
  let sl3 : Sp := lamSp fr_rc [] F3 (lamB lam_rc) fL pm ctv [some (.ref b), some (.ref dl), some (.int (ends : Int)), some (.ref sn)] cs t3
  have hfr : FRh P w K mg base fL sl3 := by
    refine lam_fnR (fr := fr_rc) cxC_N sc_lam_rc (fun us hl => match us, hl with | [], _ => rfl) L fun A outer s H E hr => ?_
    exact pe_fnX D_l_called hr (Nat.le_refl 15) rfl (L2N.passes_call (L2N.takes_of rfl rfl rfl rfl) (fun _ _ _ _ h => h)) (pa_cons (pv 0) (pa_cons (pv 1) (pa_cons (pv 2) (pa_cons (pv 3) pa_nil))))
  have S2 : Same H1 (plusC H1 cs) := fun c o e => plusC_keep hfree e
  refine heard_of (G := fun o H => EndW C b sn ends H xs past pg more er o) (sl := sl3) hfr ⟨_, _, _, _, hfn⟩ eN hfree (fun _ _ _ S h => h.on S) (fun Q' E' ho he hp => ?_) hQ
  refine ⟨rfl, hasC_plus, S2 _ _ hfn, S2 _ _ hco, ?_⟩
  rw [minusC_plus hfree]
  refine ⟨_, rfl, _, rfl, _, rfl, _, rfl, ?_⟩
  exact called_run I hi eN T1 (fun i H' hi ks g hf => ho i H' hi ks g hf) (fun e cls d H' hea ok ks g hf => he e cls d H' hea ok ks g hf) (fun d H' ks g hf => hp d H' ks g hf)
/-- heard of the call without one -/
theorem heard_ra (D_l_all : Dn P w K mg base (L2N.CX P w) 14 "_law_all" ["_law_book_here", "_law_d", "_law_look"] (spAll (FRn P w K mg base) C mg)) (I : Ahead C T H0 j b i H pl ps past pg dl ml ul sn xs ms more er) (hi : i ≤ 100)
    {fL c' : Addr} {pm ctv : Value} {cl : List (Str × Addr)} {cs : Cs} (eN : ExtN H H1) (T1 : Tabs T H1) (hfn : H1 fL = some (ObjO fL (lamO ⟨"<lambda>", q_right, lamP lam_ra, [], lamSc lam_ra, cl, c'⟩ (lamB lam_ra) pm ctv))) (hco : H1 c' = some (CodeO c' q_right))
    (L : LamK cl fr_ra [some (.ref b), some (.ref dl)] cs) (hfree : ∀ c o, cs.lookup c = some o → H1 c = none)
    (hQ : ∀ r o H3, KeepS b (some sn) T H H3 → H3 r = some (.lst (o.zs.map V.str)) → EndN C b H3 xs past pg more er o → Q (.ref r) H3) : spHeard (FRh P w K mg base) mg [.ref fL] (plusC H1 cs) (fun v H2 => HasC H2 cs ∧ Q v (minusC H2 cs)) E := by
  let F3 : NF := ⟨"<lambda>", q_right, lamP lam_ra, [], lamSc lam_ra, cl, c'⟩
  let t3 : XK → TE := fun E => tCall (spAll (FRn P w K mg base) C mg) [] E (tCons (tVar 0) (tCons (tVar 1) (tCons (tC .non) tNil)))
  let sl3 : Sp := lamSp fr_ra [] F3 (lamB lam_ra) fL pm ctv [some (.ref b), some (.ref dl)] cs t3
  have hfr : FRh P w K mg base fL sl3 := by
    refine lam_fnR (fr := fr_ra) cxC_N sc_lam_ra (fun us hl => match us, hl with | [], _ => rfl) L fun A outer s H E hr => ?_
    exact pe_fnX D_l_all hr (show 14 ≤ 15 by decide) rfl (L2N.passes_call (L2N.takes_of rfl rfl rfl rfl) (fun _ _ _ _ h => h)) (pa_cons (pv 0) (pa_cons (pv 1) (pa_cons pe_non pa_nil)))
  have S2 : Same H1 (plusC H1 cs) := fun c o e => plusC_keep hfree e
  refine heard_of (G := fun o H => EndN C b H xs past pg more er o) (sl := sl3) hfr ⟨_, _, _, _, hfn⟩ eN hfree (fun _ _ _ S h => h.on S) (fun Q' E' ho he hp => ?_) hQ
  refine ⟨rfl, hasC_plus, S2 _ _ hfn, S2 _ _ hco, ?_⟩
  rw [minusC_plus hfree]
  refine ⟨_, rfl, _, rfl, ?_⟩
  exact all_run I hi eN T1 (fun i H' hi ks g hf => ho i H' hi ks g hf) (fun e cls d H' hea ok ks g hf => he e cls d H' hea ok ks g hf)
end
end Pp
-- G21
namespace Pp
open PySem PySem.Spec PyProof.Rows L2 NdefX LamX
/-- behind a call of do_all, before it is judged -/
structure Left (T : List (Addr × Str)) (H0 : Hp) (j : Addr) (H : Hp) (pl : Addr) (ps : List V) (past : List Page) (pg : Page) (dl ml ul : Addr) (xs ms : List V) (more : List Page) (due : List Str) : Prop where
  k : ∀ a o, a ≠ j → H0 a = some o → (∀ qs, o ≠ .tbl qs) → H a = some o
  t : Tabs T H
  pl : wo j H pl = some (.lst ps)
  ps : LPs (wo j H) ps (past ++ [pg])
  dl : H dl = some (.lst xs)
  ml : wo j H ml = some (.lst ms)
  ms : LPs (wo j H) ms (pg :: more)
  ul : H ul = some (.lst (due.map V.str))
section
variable {C : Addr} {T : List (Addr × Str)} {H0 H H' : Hp} {j b pl dl ml ul sn : Addr} {i n m : Nat} {ps xs ms : List V} {past more : List Page} {pg : Page} {er : Option Err} {due : List Str}
theorem Left.on (S : Same H H') (L : Left T H0 j H pl ps past pg dl ml ul xs ms more due) : Left T H0 j H' pl ps past pg dl ml ul xs ms more due :=
  ⟨fun a o h1 h2 h3 => S _ _ (L.k a o h1 h2 h3), L.t.ext S, wo_mono S _ _ L.pl, L.ps.on (wo_mono S), S _ _ L.dl, wo_mono S _ _ L.ml, L.ms.on (wo_mono S), S _ _ L.ul⟩
theorem Ahead.left (J : JugAt n H j) (I : Ahead C T H0 j b i H pl ps past pg dl ml ul sn xs ms more er) (ks : KeepS b (some sn) T H H') : Left T H0 j H' pl ps past pg dl ml ul xs ms more (dueS er) ∧ JugAt n H' j := by
  obtain ⟨nd, md, pd, ⟨dx, hb⟩, _, _⟩ := id I.bk
  have N : NI (wo sn (wo j H)) (wo j H') := fun a o h n1 n2 => by
    have h2 := wo_same _ _ h
    have h3 := wo_same _ _ h2
    refine wo_at (wo_ne h2) (ks.k a o (fun z => ?_) (fun d z => ?_) h3 n2)
    · rw [z, hb] at h3
      exact n1 _ _ _ (Option.some.inj h3).symm
    · cases z
      exact wo_ne h
  refine ⟨⟨fun a o h1 h2 h3 => ?_, ks.t, N.lst I.pl, I.ps.ni N, wo_same _ _ (N.lst I.dl), N.lst I.ml, I.ms.ni N, wo_same _ _ (N.lst I.ul)⟩, ?_⟩
  · refine ks.k a o (fun z => ?_) (fun d z => ?_) (I.k a o h1 h2 h3) h3
    · rw [z, I.nb] at h2
      cases h2
    · cases z
      intro z
      rw [z] at h2
      obtain ⟨qs, e⟩ := I.ns _ h2
      exact h3 qs e
  · obtain ⟨d, m, c, e, r⟩ := J
    refine ⟨d, m, c, ks.k j _ (fun z => ?_) (fun d' z => ?_) e (fun _ z => by cases z), r⟩
    · rw [z, hb] at e
      cases e
    · cases z
      exact Ne.symm (I.sj ⟨d, m, c, e, r⟩)
end
/-- how it is judged -/
def Judged (C b : Addr) (H : Hp) (xs : List V) (past : List Page) (pg : Page) (more : List Page) (due : List Str) (o : Hd) : Prop :=
  (due = [] ∧ o = .told xs.length ∧ BookAt C H b (lastP pg more) ((past ++ pg :: more).dropLast)) ∨ (due ≠ [] ∧ o.zs = due ∧ BookAt C H b pg past)
theorem Judged.on {C b : Addr} {H H' : Hp} {xs : List V} {past : List Page} {pg : Page} {more : List Page} {due : List Str} {o : Hd} (S : Same H H') (h : Judged C b H xs past pg more due o) : Judged C b H' xs past pg more due o := by
  rcases h with ⟨h1, h2, h3⟩ | ⟨h1, h2, h3⟩
  · exact .inl ⟨h1, h2, h3.on S⟩
  · exact .inr ⟨h1, h2, h3.on S⟩
theorem atI_back {α : Type} {xs : List α} {m : Nat} {a : α} (hm : m < xs.length) (h : xs[xs.length - 1 - m]? = some a) : atI xs (-1 - (m : Int)) = some a := by
  unfold atI ixN
  rw [if_neg (by omega), if_pos (by omega)]
  have e : ((-1 - (m : Int)) + (xs.length : Int)).toNat = xs.length - 1 - m := by omega
  rw [e]
  exact h
theorem Ahead.spoil {C : Addr} {T : List (Addr × Str)} {H0 H H' : Hp} {j b pl dl ml ul sn q m2 u2 : Addr} {i n at_ : Nat} {ps xs ms : List V} {past more : List Page} {pg : Page} {er : Option Err} {ds : List Deed} {y : V} (J : JugAt n H j) (I : Ahead C T H0 j b i H pl ps past pg dl ml ul sn xs ms more er)
    (hds : P2 (DeedAt H) xs ds) (hat : at_ ≤ xs.length) (hx : xs.length ≤ 5) (hbad : BadAt H y) (hq : wo j H q = some (.lst (xs.take at_ ++ [y] ++ xs.drop at_))) (S : Same H H') (hm : H m2 = none) (hu : H u2 = none) (hm' : H' m2 = some (.lst (ms.take 1))) (hu' : H' u2 = some (.lst [.str "InvalidDeeds", .str (toString (at_ : Int))])) :
    Ahead C T H0 j b i H' pl ps past pg q m2 u2 sn (xs.take at_ ++ [y] ++ xs.drop at_) (ms.take 1) [] (some (.deeds at_)) := by
  have S2 : Same (wo sn (wo j H)) (wo sn (wo j H')) := wo_mono (wo_mono S)
  have hq9 : H q = some (.lst (xs.take at_ ++ [y] ++ xs.drop at_)) := wo_same _ _ hq
  have hqs : q ≠ sn := fun z => by
    have e := I.seen
    rw [← z, hq9] at e
    have e := congrArg List.length (HO.lst.inj (Option.some.inj e))
    simp at e
  have nw : ∀ {a : Addr} {o : HO}, H a = none → H' a = some o → wo sn (wo j H') a = some o := fun {a o} hn ho => wo_at (fun z => by rw [z, I.seen] at hn; cases hn) (wo_at (J.ne hn) ho)
  refine ⟨fun a o hj h0 ht => S _ _ (I.k a o hj h0 ht), I.nb, I.ns, I.t.ext S, I.bk.on S, S _ _ I.seen, S2 _ _ I.pl, I.ps.on S2, I.ok, I.len, S2 _ _ (wo_at hqs hq), ?_, nw hm hm', (P2.take 1 I.ms).imp fun v g ⟨l, h⟩ => ⟨l, h.on S2⟩, nw hu hu', (fun g hg => by cases hg), Nat.zero_le _, fun e he => ?_, .inl ⟨at_, y, ?_, hbad.on S, fun k z hk hz => ?_, rfl, rfl⟩⟩
  · simp only [List.length_append, List.length_take, List.length_drop, List.length_singleton]
    omega
  · cases he
    show at_ < 10000
    omega
  · rw [List.append_assoc, List.getElem?_append_right (by rw [List.length_take]; omega), List.length_take, Nat.min_eq_left hat, Nat.sub_self]
    rfl
  · rw [List.append_assoc, List.getElem?_append_left (by rw [List.length_take]; omega), List.getElem?_take_of_lt hk] at hz
    obtain ⟨d, _, hd⟩ := hds.get1 hz
    exact ⟨d, hd.td (.of S)⟩
theorem tif_exp {t : TT} {ta tb : TE} {σ : L2.St} {H : Hp} {Q : VK} (P : V → Hp → Prop) (key : ∀ v H', P v H' → Q v H') (h : (∀ v H', P v H' → Q v H') → tIf t ta tb σ H Q) : tIf t ta tb σ H Q := h key
abbrev plainL : List Str := ["plain"]
theorem due_plain {er : Option Err} : dueS er ≠ plainL := by
  cases er with
  | none => intro h; cases h
  | some e => intro h; have := congrArg List.length h; cases this
theorem plain_ok : ∀ z ∈ plainL, PyData.strOk z = true := fun z hz => by
  rw [List.mem_singleton.mp hz]
  exact strOk_of _
theorem ite_none {c : Prop} [Decidable c] {α : Type} {a b : α} (h : ¬ c) : (if c then a else b) = b := if_neg h
theorem tasg_join {ta : TE} {g : TG} {D : Ends} {σ : L2.St} {H : Hp} (P : V → Hp → Prop) (key : ∀ v H', P v H' → g v σ H' D.nx) (h : (∀ v H', P v H' → g v σ H' D.nx) → tAsg ta g D σ H) : tAsg ta g D σ H := h key
theorem last_split (past : List Page) (pg : Page) (more : List Page) : (past ++ pg :: more).dropLast ++ [lastP pg more] = past ++ pg :: more := by
  obtain ⟨ys, e⟩ := List.getLast?_eq_some_iff.mp (lastP_eq pg more)
  rw [e, ← List.append_assoc, List.dropLast_concat]
theorem LPs.apn {H : Hp} {ps : List V} {gs : List Page} (h : LPs H ps gs) : LPs H (ps ++ []) gs := by
  rw [List.append_nil]
  exact h
theorem hd_ok {o : Hd} {due : List Str} (h : (∃ i, o = .told i) ∨ o.zs = due) (k : ∀ z ∈ due, PyData.strOk z = true) : ∀ z ∈ o.zs, PyData.strOk z = true := by
  rcases h with ⟨i, rfl⟩ | h
  · intro z hz
    have : z = Str.ofString "told" ∨ z = Str.ofString (toString (i : Int)) := by simpa [Hd.zs] using hz
    rcases this with rfl | rfl <;> exact strOk_of _
  · rw [h]; exact k
theorem NI.ins {H H' : Hp} {b C dx : Addr} {fs : List (Str × V)} (hb : H b = some (.ins C dx fs)) (B : But b H H') : NI H H' := fun a o h n1 _ => B a o (fun z => by
  rw [z, hb] at h
  exact n1 _ _ _ (Option.some.inj h).symm) h
theorem pgok_nil : PgOk ⟨[], []⟩ := by
  constructor <;> first | (intro q hq; cases hq) | simp
theorem wo_none {j a : Addr} {H : Hp} (h : H a = none) : wo j H a = none := by
  unfold Pp.wo
  split
  · rfl
  · exact h
def rTupOf (K : PySem.W.Frag) : List V → Hp → VK → Prop := fun xs H Q => ∃ p ys, xs = [.ref p] ∧ ((SqL K H p ys ∧ ∀ l, H l = none → Q (.ref l) (L2.upd H l (.tup ys))) ∨ (SqT K H p ys ∧ Q (.ref p) H))
def rLenS (K : PySem.W.Frag) : List V → Hp → VK → Prop := fun xs H Q => ∃ p ys, xs = [.ref p] ∧ (SqL K H p ys ∨ SqT K H p ys) ∧ Q (.int ys.length) H
def spRight (T : List (Addr × Str)) : Sp := fun vs H Q _ => ∃ j : Addr, vs = [.ref j] ∧ Tabs T H ∧ JugAt 0 H j ∧ ∀ H', (∀ a o, a ≠ j → H a = some o → (∀ qs, o ≠ .tbl qs) → H' a = some o) → Tabs T H' → Q (.bl true) H'
section
variable {P : Program} {w : World} {K : PySem.W.Frag} {mg : Str → Option Value} {base : Heap} {C : Addr}
theorem d_l_right {T : List (Addr × Str)} {c Pt : Addr} (F : AtT K mg "_law_right" s_l_right c) (TB : TabB base mg c Pt) (hm : (Pt, q_right) ∈ T) (hu : ∀ p ∈ T, p.1 = Pt → p.2 = q_right) (B : Blt mg) (BK : BkT K mg C) (MK : MkT K C)
    (D_m_init : Mn P w K mg base CX0 1 C "__init__" ["self"] (spInit C)) (D_m_undo : Mn P w K mg base CX0 1 C "undo" ["self"] (spUndo C)) (D_l_pull : Dn P w K mg base CX0 1 "_law_pull" ["_law_jug_here", "_law_top"] spPull) (D_l_many : Dn P w K mg base CX0 7 "_law_many" ["_law_jug_here", "_law_page"] spMany)
    (D_l_spoilt : Dn P w K mg base CX0 3 "_law_spoilt" ["_law_jug_here", "_law_deeds"] spSpoilt) (D_l_all : Dn P w K mg base (L2N.CX P w) 14 "_law_all" ["_law_book_here", "_law_d", "_law_look"] (spAll (FRn P w K mg base) C mg))
    (D_l_called : Dn P w K mg base (L2N.CX P w) 15 "_law_called" ["_law_book_here", "_law_deeds", "_law_ends_at", "_law_seen_here"] (spCalled C mg T)) (D_l_heard : Dn P w K mg base CX0 17 "_law_heard" ["_law_call_here"] (spHeard (FRh P w K mg base) mg))
    (D_l_book_is : DnG P w K mg base (L2N.CX P w) 8 "_law_book_is" ["_law_book_here", "_law_page", "_law_many_here"] (spBookIs C)) : DnG P w K mg base (L2N.CX P w) 18 "_law_right" ["_law_jug_here"] (spRight T) := by
  refine F.okG sc_l_right (fun vs H Q E h => ?_) (fun _ _ _ _ _ _ us hl => match us, hl with | [_], _ => rfl) (fun f A outer s H vs Q E hr hgd h => ?_)
  · obtain ⟨_, rfl, _⟩ := h
    rfl
  obtain ⟨j, rfl, hT, hj, hQ⟩ := h
  refine ⟨_, (pss_cons (ps_asg (pe_tup (pa_cons (pe_mk0 D_m_init MK hr (by decide) rfl BK.gC) (pa_cons (pe_lst (pa_cons (pe_tup (pa_cons pe_dnewK (pa_cons (pe_lst pa_nil) pa_nil))) pa_nil)) pa_nil))) (pg_tup rfl (pgs_cons (pg_name (i := 1) sc_l_right.nd rfl (.inr rfl)) (pgs_cons (pg_name (i := 2) sc_l_right.nd rfl (.inr rfl)) pgs_nil))))
  (pss_cons (ps_for (passes_of rfl) rfl (pi_range1 rfl B.range (pa_cons pe_int pa_nil)) (pg_name (i := 3) sc_l_right.nd rfl (.inl rfl))
    (pss_cons (ps_asg (pe_fn D_l_many hr (by decide) rfl (pa_cons (pv 0) (pa_cons (pe_ix (r := rIxL K) ix_list (pv 2) (pe_un un_neg pe_int) (fun _ _ => rfl)) pa_nil))) (pg_tup rfl (pgs_cons (pg_name (i := 4) sc_l_right.nd rfl (.inr rfl)) (pgs_cons (pg_name (i := 5) sc_l_right.nd rfl (.inr rfl)) (pgs_cons (pg_name (i := 6) sc_l_right.nd rfl (.inl rfl)) pgs_nil)))))
  (pss_cons (ps_asg (pe_tup (pa_cons (pe_lst pa_nil) (pa_cons (pe_fn D_l_pull hr (by decide) rfl (pa_cons (pv 0) (pa_cons pe_int pa_nil))) pa_nil))) (pg_tup rfl (pgs_cons (pg_name (i := 7) sc_l_right.nd rfl (.inr rfl)) (pgs_cons (pg_name (i := 8) sc_l_right.nd rfl (.inr rfl)) pgs_nil))))
  (pss_cons (ps_if (pt_cmpR op_eq (pe_fn D_l_pull hr (by decide) rfl (pa_cons (pv 0) (pa_cons pe_int pa_nil))) pe_int (nomark _)) (pss_cons (ps_asg (pe_fn D_l_spoilt hr (by decide) rfl (pa_cons (pv 0) (pa_cons (pv 4) pa_nil))) (pg_tup rfl (pgs_cons (pg_name (i := 4) sc_l_right.nd rfl (.inr rfl)) (pgs_cons (pg_name (i := 11) sc_l_right.nd rfl (.inl rfl)) pgs_nil))))
  (pss_one (ps_asg (pe_tup (pa_cons (pe_slice sl_list (pv 5) po_none (po_some pe_int)) (pa_cons (pe_lst (pa_cons pe_str (pa_cons (pe_callB (id := "repr") SkE.call_repr_int (by rfl) B.repr (by decide +kernel) (pa_cons (pv 11) pa_nil)) pa_nil))) pa_nil))) (pg_tup rfl (pgs_cons (pg_name (i := 5) sc_l_right.nd rfl (.inr rfl)) (pgs_cons (pg_name (i := 6) sc_l_right.nd rfl (.inl rfl)) pgs_nil)))))) pss_nil)
  (pss_cons (ps_if (pt_cmpR op_eq (pe_fn D_l_pull hr (by decide) rfl (pa_cons (pv 0) (pa_cons pe_int pa_nil))) pe_int (nomark _)) (pss_one (ps_asg (pe_tup (pa_cons (pe_callC (fr := fr_ra) (js := [1, 4]) (scope := lamSc lam_ra) D_l_heard cxC_0 hr (by decide) rfl pass0 (pa_cons (pe_lamE (q := q_right) TB rfl rfl hm hu hf_ra) pa_nil) hf_ra hr_ra rfl rfl (fun _ => rfl)) (pa_cons pe_int pa_nil))) (pg_tup rfl (pgs_cons (pg_name (i := 9) sc_l_right.nd rfl (.inl rfl)) (pgs_cons (pg_name (i := 8) sc_l_right.nd rfl (.inr rfl)) pgs_nil))))) (pss_cons (ps_set (i := 9) sc_l_right.nd rfl (.inl rfl) (pe_callC (fr := fr_rc) (js := [1, 4, 8, 7]) (scope := lamSc lam_rc) D_l_heard cxC_0 hr (by decide) rfl pass0 (pa_cons (pe_lamE (q := q_right) TB rfl rfl hm hu hf_rc) pa_nil) hf_rc hr_rc rfl rfl (fun _ => rfl)))
  (pss_cons (ps_setLc (i := 10) (own := [("_law_k", 12)]) (g := gName 12) (by rfl) sc_l_right.nd rfl rfl (sw_true rfl rfl rfl (by decide +kernel)) (pi_range1 rfl B.range (pa_cons (pe_op op_sub (pe_callB (id := "len") call_len_seq (by rfl) B.len (by decide +kernel) (pa_cons (pv 5) pa_nil)) pe_int) pa_nil)) (blkOk_by (own := [("_law_k", 12)]) (N := N_l_right) (sc := defScope s_l_right) (by decide +kernel)) (fun _ _ _ _ _ => pg_name (i := 12) sc_l_right.nd rfl (Or.inl rfl)) (fun _ _ _ _ _ => pts_nil) (fun _ _ _ _ _ => (pe_lst (pa_cons pe_bl (pa_cons (pe_op op_add (pe_callB (id := "len") (r := rLenS K) call_len_seq (by rfl) B.len (by decide +kernel) (pa_cons (pv 2) pa_nil)) (pv 12)) (pa_cons (pe_callTy (T := "tuple") (r := rTupOf K) call_tuple_of (by rfl) B.tuple (by decide +kernel) (pa_cons (pe_callB (call_sortedD rfl) (by rfl) B.sorted (by decide +kernel) (pa_cons (pe_ix (r := rIxT K) ix_tup (pe_ix (r := rIxL K) ix_list (pv 5) (pe_op op_add (pv 12) pe_int) (fun _ _ => rfl)) pe_int (fun _ _ => rfl)) pa_nil)) pa_nil)) pa_nil))))))
  (pss_cons (ps_set (i := 6) sc_l_right.nd rfl (.inl rfl) (pe_ifExp (pt_chain op_lt op_lt pe_int (pv 8) (pe_callB (id := "len") call_len_seq (by rfl) B.len (by decide +kernel) (pa_cons (pv 5) pa_nil))) (pe_lst (pa_cons pe_str pa_nil)) (pv 6)))
  (pss_one (ps_if (pt_cmpR (op_neDK (K := K) rfl (by exact hr.units)) (pv 7) (pe_ifExp (pt_cmpR (op_eqD hr.units) (pv 6) (pe_lst (pa_cons pe_str pa_nil)) (nomark _)) (pe_slice sl_list (pv 10) po_none (po_some (pv 8))) (pv 10)) (nomark _)) (pss_one (ps_ret pe_bl)) pss_nil))))))
  (pss_cons (ps_if (pt_cmpR (op_neDK (K := K) rfl (by exact hr.units)) (pv 9) (pe_ifExp (pt_cmpR (op_neDK (K := K) rfl (by exact hr.units)) (pv 6) (pe_lst pa_nil) (nomark _)) (pv 6) (pe_lst (pa_cons pe_str (pa_cons (pe_callB (id := "repr") SkE.call_repr_int (by rfl) B.repr (by decide +kernel) (pa_cons (pe_callB (id := "len") call_len_seq (by rfl) B.len (by decide +kernel) (pa_cons (pv 4) pa_nil)) pa_nil)) pa_nil)))) (nomark _)) (pss_one (ps_ret pe_bl)) pss_nil)
  (pss_cons (ps_set (i := 2) sc_l_right.nd rfl (.inr rfl) (pe_op op_cat (pv 2) (pe_ifExp (pt_cmpR (op_eqD hr.units) (pv 6) (pe_lst pa_nil) (nomark _)) (pe_slice sl_list (pv 5) (po_some pe_int) po_none) (pe_lst pa_nil))))
  (pss_one (ps_if (pt_not (pt_val (pe_fnG D_l_book_is hr (by decide) (by exact hgd) rfl (L2N.passes_call (L2N.takes_of rfl rfl rfl rfl) (fun _ _ _ _ h => h)) (pa_cons (pv 1) (pa_cons (pe_ix (r := rIxL K) ix_list (pv 2) (pe_un un_neg pe_int) (fun _ _ => rfl)) (pa_cons (pe_op op_sub (pe_callB (id := "len") (r := rLenS K) call_len_seq (by rfl) B.len (by decide +kernel) (pa_cons (pv 2) pa_nil)) pe_int) pa_nil)))))) (pss_one (ps_ret pe_bl)) pss_nil)))))))))
  (pss_cons (ps_for (passes_of rfl) rfl (pi_range1 rfl B.range (pa_cons (pe_op op_sub (pe_callB (id := "len") (r := rLenS K) call_len_seq (by rfl) B.len (by decide +kernel) (pa_cons (pv 2) pa_nil)) pe_int) pa_nil)) (pg_name (i := 12) sc_l_right.nd rfl (.inl rfl))
    (pss_one (ps_if (PW.pt (pw_or (pt_cmpR op_notN (pe_mn0 D_m_undo BK.cls hr (by decide) pass0 (pv 1)) pe_non (nomark _)) (pw_or1 (pt_not (pt_val (pe_fnG D_l_book_is hr (by decide) (by exact hgd) rfl (L2N.passes_call (L2N.takes_of rfl rfl rfl rfl) (fun _ _ _ _ h => h)) (pa_cons (pv 1) (pa_cons (pe_ix (r := rIxL K) ix_list (pv 2) (pe_op op_sub (pe_un un_neg pe_int) (pv 12)) (fun _ _ => rfl)) (pa_cons (pe_op op_sub (pe_op op_sub (pe_callB (id := "len") (r := rLenS K) call_len_seq (by rfl) B.len (by decide +kernel) (pa_cons (pv 2) pa_nil)) pe_int) (pv 12)) pa_nil))))))))) (pss_one (ps_ret pe_bl)) pss_nil)))
  (pss_one (ps_ret pe_bl))))), ?_⟩
  refine fun b dx hb hdx hne => ⟨b, dx, rfl, upd_same, fun H1 B1 bk1 => ⟨rfl, ?_⟩⟩
  have S1 : Same H H1 := fun a o h => by
    have n1 : a ≠ b := ne_of_none h hb
    refine B1 a o n1 ?_
    rw [upd_ne n1, upd_ne (ne_of_none h hdx)]
    exact h
  have j1 := hj.on S1
  refine fun d hd => ⟨by decide, fun l hl => ⟨sz2, fun t ht => ⟨sz1, fun pl hpl => ⟨sz2, fun u hu => ⟨u, _, rfl, SqT.of upd_same, rfl, _, _, rfl, _, _, rfl, rfl, ?_⟩⟩⟩⟩⟩
  have T1 : Same H1 (upd (upd (upd (upd (upd H1 d (.dK [])) l (.lst [])) t (.tup [.ref d, .ref l])) pl (.lst [.ref t])) u (.tup [.ref b, .ref pl])) := ((((same_new hd).trans (same_new hl)).trans (same_new ht)).trans (same_new hpl)).trans (same_new hu)
  have I0 : RI C T H j b 0 (upd (upd (upd (upd (upd H1 d (.dK [])) l (.lst [])) t (.tup [.ref d, .ref l])) pl (.lst [.ref t])) u (.tup [.ref b, .ref pl])) pl [.ref t] [] ⟨[], []⟩ := by
    have jn : ∀ {a : Addr} {o : HO}, (upd (upd (upd (upd (upd H1 d (.dK [])) l (.lst [])) t (.tup [.ref d, .ref l])) pl (.lst [.ref t])) u (.tup [.ref b, .ref pl])) a = some o → o ≠ .lst [] ∨ True → (∀ xs, o = .lst xs → xs.length ≠ 3) → wo j (upd (upd (upd (upd (upd H1 d (.dK [])) l (.lst [])) t (.tup [.ref d, .ref l])) pl (.lst [.ref t])) u (.tup [.ref b, .ref pl])) a = some o := fun {a o} ha _ hx => by
      refine wo_at (fun z => ?_) ha
      obtain ⟨q1, q2, q3, e, _⟩ := j1.on T1
      rw [z, e] at ha
      exact hx _ (Option.some.inj ha).symm rfl
    refine ⟨fun a o _ h _ => T1 _ _ (S1 _ _ h), hb, (hT.ext S1).ext T1, bk1.on T1, jn (same_new hu _ _ upd_same) (.inr trivial) (fun xs z => by cases z; show 1 ≠ 3; decide), .cons ⟨l, t, d, rfl, jn (same_new hu _ _ (same_new hpl _ _ upd_same)) (.inr trivial) (fun xs z => by cases z), ⟨[], jn (same_new hu _ _ (same_new hpl _ _ (same_new ht _ _ (same_new hl _ _ upd_same)))) (.inr trivial) (fun xs z => by cases z), .nil⟩, [], jn (same_new hu _ _ (same_new hpl _ _ (same_new ht _ _ upd_same))) (.inr trivial) (fun xs z => by cases z; show 0 ≠ 3; decide), .nil⟩ .nil, fun g hg => ?_, Nat.zero_le _⟩
    rw [List.mem_singleton.mp hg]
    exact ⟨pgok_nil, Nat.zero_le _⟩
  have j2 := j1.on T1
  generalize upd (upd (upd (upd (upd H1 d (.dK [])) l (.lst [])) t (.tup [.ref d, .ref l])) pl (.lst [.ref t])) u (.tup [.ref b, .ref pl]) = H2 at I0 j2 ⊢
  clear T1 hu hpl ht hl hd j1 bk1 B1
  refine ⟨10, rfl, by decide, by decide, ?_⟩
  refine for_it (walk_range (lo := 0) (n := 10)) (fun i σ H3 => JugAt (2000 * i) H3 j ∧ ∃ pl ps past pg, RI C T H j b i H3 pl ps past pg ∧ ∃ t3 t4 t5 t6 t7 t8 t9 t10 t11 t12, σ = [some (.ref j), some (.ref b), some (.ref pl), t3, t4, t5, t6, t7, t8, t9, t10, t11, t12]) ⟨j2, pl, _, _, _, I0, none, none, none, none, none, none, none, none, none, none, rfl⟩ (fun _ _ _ _ _ => True.intro) ?_ ?_
  · rintro i y σ H3 H3' hi ⟨j3, pl, ps, past, pg, I, t3, t4, t5, t6, t7, t8, t9, t10, t11, t12, rfl⟩ ⟨rfl, rfl⟩
    obtain ⟨v, hv1, l, hv⟩ := I.ps.last (b := pg) (by rw [List.length_append]; simp)
    obtain ⟨hg, hgl⟩ := I.ok pg (List.mem_append_right _ List.mem_cons_self)
    refine ⟨_, rfl, _, rfl, _, rfl, pl, _, _, v, rfl, rfl, SqL.of (wo_same _ _ I.pl), atI_neg1 hv1, ?_⟩
    refine ⟨j, v, pg, l, 2000 * i, rfl, j3, by omega, hv, hg, by omega, fun r H4 dl ml ul xs ms ds b4 j4 hr4 _ hdl hds hok hxl hml hms hgs her hul => ?_⟩
    refine ⟨r, _, rfl, SqT.of hr4, rfl, _, _, rfl, _, _, rfl, _, _, rfl, rfl, ?_⟩
    have I4 := I.on j3 b4
    refine ⟨by decide, fun sn hsn => ⟨_, rfl, j, 8, 2000 * i + 1000, rfl, j4.on (same_new hsn), by decide, by decide, by omega, fun ends H6 he6 b6 j6 => ⟨sz2, fun u hu => ⟨u, _, rfl, SqT.of upd_same, rfl, _, _, rfl, _, _, rfl, rfl, ?_⟩⟩⟩⟩
    have B47 : But j H4 (upd H6 u (.tup [.ref sn, .int (ends : Int)])) := ((But.of (same_new hsn)).trans b6).trans (But.of (same_new hu))
    have hsj : sn ≠ j := j4.ne hsn
    have hs7 : upd H6 u (.tup [.ref sn, .int (ends : Int)]) sn = some (.lst []) := same_new hu _ _ (b6 _ _ hsj upd_same)
    have j7 : JugAt (2000 * i + 1001) (upd H6 u (.tup [.ref sn, .int (ends : Int)])) j := j6.on (same_new hu)
    generalize upd H6 u (.tup [.ref sn, .int (ends : Int)]) = H7 at B47 hs7 j7 ⊢
    have S47 : Same (wo j H4) (wo sn (wo j H7)) := wo_of B47.wo (wo_none hsn)
    have A7 : Ahead C T H j b i H7 pl ps past pg dl ml ul sn xs ms (runs pg ds).1 (runs pg ds).2 := by
      refine ⟨fun a o hj h0 ht => B47 a o hj (I4.k a o hj h0 ht), I.nb, fun o ho => ?_, tabs_jug j4 B47 I4.t, I4.bk.jug j4 B47, hs7, S47 _ _ I4.pl, I4.ps.on S47, I.ok, I.len, S47 _ _ hdl, by omega, S47 _ _ hml, hms.imp fun v g ⟨l', _, h⟩ => ⟨l', h.on S47⟩, S47 _ _ hul, fun g hg => ⟨(hgs g hg).1, by have := (hgs g hg).2; omega⟩, ?_, her, .inr ⟨ds, hds.imp fun _ _ h => h.td (j4.td B47), hok, rfl, rfl⟩⟩
      · by_cases e : ∃ qs, o = .tbl qs
        · exact e
        · have := I4.k sn o hsj ho (fun qs z => e ⟨qs, z⟩)
          rw [hsn] at this
          cases this
      · have l1 := runs_len pg ds
        have l2 := hds.len
        omega
    clear hsn hu b6 j6 S47
    refine nx_intro ?_
    refine tif_join (fun σ' H' => ∃ n', n' ≤ 2000 * i + 1100 ∧ JugAt n' H' j ∧ ∃ dl ml ul xs ms more er t11, Ahead C T H j b i H' pl ps past pg dl ml ul sn xs ms more er ∧ σ' = [some (.ref j), some (.ref b), some (.ref pl), some (.int (0 + (i : Int))), some (.ref dl), some (.ref ml), some (.ref ul), some (.ref sn), some (.int (ends : Int)), t9, t10, t11, t12]) ?_ (fun key => ?_)
    case refine_2 =>
      refine ⟨_, rfl, j, 5, 2000 * i + 1001, rfl, j7, by decide, by decide, by omega, fun r8 H8 hr8 b8 j8 => ⟨rfl, _, rfl, ?_⟩⟩
      have A8 := A7.on j7 b8 j8
      by_cases c8 : r8 = 0
      · rw [show decide (V.int (r8 : Int) = V.int 0) = true from decide_eq_true (by rw [c8]; rfl)]
        have hxr : ∀ y ∈ xs, ∃ a, y = V.ref a := fun y hy => by
          obtain ⟨i', hi', e'⟩ := List.mem_iff_getElem.mp hy
          obtain ⟨d', _, hd'⟩ := hds.get1 (i := i') (a := y) (by rw [List.getElem?_eq_getElem hi', e'])
          obtain ⟨x', _, _, e2, _⟩ := hd'.shape
          exact ⟨x', e2⟩
        refine iteT ⟨_, rfl, _, rfl, j, dl, 2000 * i + 1002, xs, rfl, j8, by omega, wo_ne (wo_same _ _ A8.dl), A8.at_dl, hxl, hxr, fun r9 q at_ y H9 b9 j9 hr9 hat hq hbad => ⟨r9, _, rfl, SqT.of hr9, rfl, _, _, rfl, _, _, rfl, rfl, ?_⟩⟩
        have A9 := A8.on j8 b9 j9
        have e0 : ∀ {σ : L2.St} {H : Hp} {R : Option Int → Hp → Prop}, R none H → tNoPart σ H R := fun h => h
        have e1 : cutV ms none (some 1) = ms.take 1 := cut_take (i := 1)
        have hml9 : H9 ml = some (.lst ms) := wo_same _ _ (wo_same _ _ A9.ml)
        refine nx_intro ?_
        refine ⟨_, rfl, ?_⟩
        refine e0 ⟨_, rfl, ml, _, rfl, SqL.of hml9, fun m2 hm2 => ?_⟩
        rw [e1]
        refine ⟨_, rfl, _, rfl, log_small (show at_ < 10000 by omega), sz2, fun u2 hu2 => ⟨sz2, fun t2 ht2 => ⟨t2, _, rfl, SqT.of upd_same, rfl, _, _, rfl, _, _, rfl, rfl, ?_⟩⟩⟩
        have S9 : Same H9 _ := ((same_new hm2).trans (same_new (o := .lst [.str "InvalidDeeds", .str (toString (at_ : Int))]) hu2)).trans (same_new (o := .tup [.ref m2, .ref u2]) ht2)
        have hu9 : H9 u2 = none := by
          cases e : H9 u2 with
          | none => rfl
          | some o => rw [same_new hm2 _ _ e] at hu2; cases hu2
        have A11 := A9.spoil j9 ((hds.imp fun _ _ h => h.td (j4.td B47)).imp fun _ _ h => (h.td (j7.td b8)).td (j8.td b9)) hat hxl hbad hq S9 hm2 hu9 (same_new ht2 _ _ (same_new hu2 _ _ upd_same)) (same_new ht2 _ _ upd_same)
        exact key _ _ ⟨2000 * i + 1004, by omega, j9.on S9, q, m2, u2, _, _, _, _, some (.int (at_ : Int)), A11, rfl⟩
      · rw [decide_eq_false (fun z => c8 (by injection z with z; omega))]
        refine iteF ?_
        exact key _ _ ⟨_, by omega, j8, dl, ml, ul, xs, ms, _, _, t11, A8, rfl⟩
    clear her hgs hul hms hml hok hds hdl hr4 A7 j7 hs7 hsj B47 I4 j4 b4 hxl hv1 hv
    rintro σ' H8 ⟨n8, hn8, j8, dl, ml, ul, xs, ms, more, er, t11, A8, rfl⟩
    refine nx_intro ?_
    refine tif_join (fun σ' H' => ∃ n', n' ≤ 2000 * i + 1200 ∧ JugAt n' H' j ∧ ∃ ul due tl o t7 t8 t10 t12, Left T H j H' pl ps past pg dl ml ul xs ms more due ∧ H' tl = some (.lst (o.zs.map V.str)) ∧ Judged C b H' xs past pg more due o ∧ (∀ z ∈ due, PyData.strOk z = true) ∧
      σ' = [some (.ref j), some (.ref b), some (.ref pl), some (.int (0 + (i : Int))), some (.ref dl), some (.ref ml), some (.ref ul), t7, t8, some (.ref tl), t10, t11, t12]) ?_ (fun key => ?_)
    case refine_2 =>
      refine ⟨_, rfl, j, 3, n8, rfl, j8, by decide, by decide, by omega, fun r9 H9 hr9 b9 j9 => ⟨rfl, _, rfl, ?_⟩⟩
      have A9 := A8.on j8 b9 j9
      have hduo := due_ok A9.ek
      by_cases c9 : r9 = 0
      · rw [show decide (V.int (r9 : Int) = V.int 0) = true from decide_eq_true (by rw [c9]; rfl)]
        refine iteT ⟨A9.t, fun fL c' pm ctv HL eN TL _ hfn hco cs L hfree => ?_⟩
        refine heard_ra D_l_all A9 (by omega) eN TL hfn hco L hfree (fun r o H3 ks hr3 hen => ?_)
        obtain ⟨L3, j3'⟩ := A9.left j9 ks
        refine ⟨sz2, fun u hu => ⟨u, _, rfl, SqT.of upd_same, rfl, _, _, rfl, _, _, rfl, rfl, ?_⟩⟩
        have S3 : Same H3 _ := same_new (o := .tup [.ref r, .int 0]) hu
        refine key _ _ ⟨_, by omega, j3'.on S3, ul, dueS er, r, o, some (.ref sn), some (.int 0), t10, t12, L3.on S3, S3 _ _ hr3, ?_, hduo, rfl⟩
        refine Judged.on S3 ?_
        cases o with
        | told q =>
          obtain ⟨h1, h2, h3⟩ := hen
          exact .inl ⟨by rw [h2]; rfl, by rw [h1], h3⟩
        | err e =>
          obtain ⟨h1, h2⟩ := hen
          exact .inr ⟨by rw [h1]; exact List.cons_ne_nil _ _, by rw [h1]; rfl, h2⟩
        | plain => exact hen.elim
      · rw [show decide (V.int (r9 : Int) = V.int 0) = false from decide_eq_false (fun z => c9 (by injection z with z; omega))]
        refine iteF ⟨A9.t, fun fL c' pm ctv HL eN TL _ hfn hco cs L hfree => ?_⟩
        refine heard_rc (ends := ends) D_l_called A9 (by omega) eN TL hfn hco L hfree (fun r o H3 ks hr3 hen => ?_)
        obtain ⟨L3, j3'⟩ := A9.left j9 ks
        have hpl3 := wo_same _ _ L3.pl
        have hml3 := wo_same _ _ L3.ml
        have hpn : ps.length = past.length + 1 := by
          have := L3.ps.len
          rw [List.length_append] at this
          exact this
        have hmn : ms.length = more.length + 1 := L3.ms.len
        have hmore := A9.ln
        refine nx_intro ?_
        refine ⟨_, rfl, ml, _, rfl, .inl (SqL.of hml3), _, _, rfl, rfl, _, rfl, by omega, by omega, fun D hD => ?_⟩
        rw [show ((ms.length : Int) - 1).toNat = more.length by omega]
        refine lc_go (J := Itr 0 more.length) (n := more.length) (j := 12) (Src.range 0 _) hD (by omega) (fun _ => rfl) (fun i ys G => ∃ as : List Addr, ys = as.map V.ref ∧ P2 (LookAt G) as ((looksFrom (past.length + 1) more).take i)) ⟨[], rfl, .nil⟩ (fun q ys G G' S ⟨as, e, p⟩ => ⟨as, e, p.imp fun a z ⟨t, e1, e2⟩ => ⟨t, S _ _ e1, S _ _ e2⟩⟩) ?_ ?_
        · rintro q y ys G hq rfl _ S hys ⟨as, rfl, pw⟩ Qe Qn ke kn
          have hgq := List.getElem?_eq_getElem hq
          generalize more[q] = g at hgq
          have hgok := (A9.gs g (List.mem_of_getElem? hgq)).1
          obtain ⟨v, hv1, lv, x', d', rfl, hx1, ⟨kvs, hd1, rr⟩, _⟩ := P2.get (i := q + 1) (b := g) L3.ms (by rw [List.getElem?_cons_succ]; exact hgq)
          have up : ∀ {a : Addr} {o : HO}, wo j H3 a = some o → G a = some o := fun h => S _ _ (wo_same _ _ h)
          have at1 : atI ms ((0 : Int) + (q : Int) + 1) = some (.ref x') := by
            have := atI_nat hv1
            rw [← this]
            congr 1
            omega
          refine ⟨_, rfl, pl, _, rfl, .inl (SqL.of (up L3.pl)), _, rfl, _, _, rfl, rfl, ?_⟩
          refine ⟨_, rfl, _, rfl, _, _, rfl, rfl, ml, _, _, _, rfl, rfl, SqL.of (up L3.ml), at1, x', _, 0, _, rfl, rfl, SqT.of (up hx1), rfl, ?_⟩
          refine ⟨d', kvs, g.sh.map (·.1), rfl, .of (up hd1), rr.keys, ?_, fun zs p hz1 hz2 hp => ?_⟩
          · have := hgok.three
            rw [List.length_map]
            omega
          have ez := names_eq hgok.ti hgok.nd hz1 hz2
          subst ez
          refine ⟨p, _, rfl, .inl ⟨SqL.of upd_same, fun tq htq => ⟨sz3, fun eq heq => ?_⟩⟩⟩
          have SG : Same G _ := ((same_new (o := .lst ((namesOf g.sh).map V.str)) hp).trans (same_new (o := .tup ((namesOf g.sh).map V.str)) htq)).trans (same_new (o := .lst [.bl true, .int ((ps.length : Int) + (0 + (q : Int))), .ref tq]) heq)
          have nD : ∀ {a : Addr} {o : HO}, (L2.upd (L2.upd (L2.upd G p (.lst ((namesOf g.sh).map V.str))) tq (.tup ((namesOf g.sh).map V.str))) eq (.lst [.bl true, .int ((ps.length : Int) + (0 + (q : Int))), .ref tq])) a = some o → o ≠ .lst (as.map V.ref) → wo D (L2.upd (L2.upd (L2.upd G p (.lst ((namesOf g.sh).map V.str))) tq (.tup ((namesOf g.sh).map V.str))) eq (.lst [.bl true, .int ((ps.length : Int) + (0 + (q : Int))), .ref tq])) a = some o := fun {a o} ha ho => by
            refine wo_at (fun z => ?_) ha
            rw [z, SG _ _ hys] at ha
            exact ho (Option.some.inj ha).symm
          refine ke _ _ SG ⟨as ++ [eq], by rw [List.map_append]; rfl, ?_⟩
          rw [looks_take hgq]
          refine P2.app (pw.imp fun a z ⟨t, e1, e2⟩ => ⟨t, wo_mono SG _ _ e1, wo_mono SG _ _ e2⟩) (.cons ⟨tq, nD ?_ ?_, nD (same_new heq _ _ upd_same) (fun z => by cases z)⟩ .nil)
          · rw [upd_same, hpn]
            congr 5
            omega
          · intro z
            have z := HO.lst.inj z
            cases as with
            | nil => cases z
            | cons a as => have := (List.cons.inj z).1; cases this
        · rintro ys H5 S5 hys _ ⟨as, rfl, pw⟩
          rw [List.take_of_length_le (by rw [looks_len]; exact Nat.le_refl _)] at pw
          have hsee : SeenAt H5 D (looksFrom (past.length + 1) more) := ⟨as, hys, pw⟩
          have hen5 := hen.on S5
          have L5 := L3.on S5
          rw [q_name]
          refine nx_intro ?_
          rw [q_seq, q_asg]
          refine tif_exp (fun v G => ∃ ul2, v = .ref ul2 ∧ Same H5 G ∧ G ul2 = some (.lst ((if 0 < ends ∧ ends ≤ more.length then plainL else dueS er).map V.str))) ?_ (fun key2 => ?_)
          case refine_2 =>
            refine ⟨_, rfl, _, _, rfl, rfl, _, rfl, ?_⟩
            by_cases c0 : 0 < ends
            · rw [decide_eq_true (show (0 : Int) < (ends : Int) by omega)]
              refine iteT ⟨_, rfl, ml, _, rfl, .inl (SqL.of (S5 _ _ hml3)), _, _, rfl, rfl, _, rfl, ?_⟩
              by_cases c1 : ends ≤ more.length
              · rw [decide_eq_true (show (ends : Int) < (ms.length : Int) by omega)]
                refine iteT ⟨sz1, fun e he => key2 _ _ ⟨e, rfl, same_new he, ?_⟩⟩
                rw [if_pos ⟨c0, c1⟩]
                exact upd_same
              · rw [decide_eq_false (show ¬ (ends : Int) < (ms.length : Int) by omega)]
                refine iteF ⟨_, rfl, key2 _ _ ⟨ul, rfl, Same.refl _, ?_⟩⟩
                rw [if_neg (fun z => c1 z.2)]
                exact L5.ul
            · rw [decide_eq_false (show ¬ (0 : Int) < (ends : Int) by omega)]
              refine iteF ⟨_, rfl, iteF ⟨_, rfl, key2 _ _ ⟨ul, rfl, Same.refl _, ?_⟩⟩⟩
              rw [if_neg (fun z => c0 z.1)]
              exact L5.ul
          rintro v6 H6 ⟨ul2, rfl, S6, hul2⟩
          have hen6 := hen5.on S6
          have hsee6 := hsee.on S6
          have L6 := L5.on S6
          rw [q_name]
          refine nx_intro ?_
          have e0 : ∀ {σ : L2.St} {H : Hp} {R : Option Int → Hp → Prop}, R none H → tNoPart σ H R := fun h => h
          have lk := looks_ok (past.length + 1) more
          have d2ok : ∀ z ∈ (if 0 < ends ∧ ends ≤ more.length then plainL else dueS er), PyData.strOk z = true := by
            split
            · exact plain_ok
            · exact hduo
          have self : ∀ {d : PyData}, SeqAt.shaped d = true → (!PyData.eqv d d) = false := fun h => by rw [PySem.SeqAt.eqv_refl _ (canLay_of h)]; rfl
          refine ⟨_, rfl, _, rfl, sz1, fun e1 he1 => ⟨.list ((if 0 < ends ∧ ends ≤ more.length then plainL else dueS er).map PyData.str), .list (plainL.map PyData.str), .lst (SqL.of (same_new he1 _ _ hul2)) (dp_strs _), .lst (SqL.of upd_same) (dp_strs plainL), strs_shaped _ d2ok, strs_shaped _ plain_ok, _, rfl, ?_⟩⟩
          have S7 := S6.trans (same_new (o := .lst [.str "plain"]) he1)
          have S67 : Same H6 (L2.upd H6 e1 (.lst [.str "plain"])) := same_new he1
          rw [eqv_strs]
          by_cases cut : 0 < ends ∧ ends ≤ more.length
          · rw [if_pos cut] at hul2 d2ok ⊢
            rw [decide_eq_true rfl]
            refine iteT ⟨_, rfl, e0 ⟨_, rfl, _, rfl, D, _, rfl, SqL.of (S7 _ _ hys), fun D2 hD2 => ?_⟩⟩
            have S8 := same_new (o := .lst (cutV (as.map V.ref) none (some (ends : Int)))) hD2
            have hsee8 : SeenAt _ D2 ((looksFrom (past.length + 1) more).take ends) := ⟨as.take ends, by rw [List.map_take, ← cut_take]; exact upd_same (o := .lst (cutV (as.map V.ref) none (some (ends : Int)))), (pw.take ends).imp fun a z ⟨t, e1, e2⟩ => ⟨t, S8 _ _ (S7 _ _ e1), S8 _ _ (S7 _ _ e2)⟩⟩
            have shp : SeqAt.shaped (seenD ((looksFrom (past.length + 1) more).take ends)) = true := seen_shaped fun z hz => lk z (List.mem_of_mem_take hz)
            cases o with
            | told q => exact absurd cut hen6.2.2.1
            | err e => exact absurd cut hen6.2.1
            | plain =>
              obtain ⟨_, hbk, hsn⟩ := hen6
              refine ⟨_, _, seen_dp ((hsn.on S67).on S8), seen_dp hsee8, shp, shp, _, rfl, ?_⟩
              rw [self shp]
              have L8 := (L6.on S67).on S8
              exact iteF (key _ _ ⟨_, by omega, j3'.on (S5.trans (S7.trans S8)), ul2, plainL, r, .plain, some (.ref sn), some (.int (ends : Int)), some (.ref D), t12, ⟨L8.k, L8.t, L8.pl, L8.ps, L8.dl, L8.ml, L8.ms, S8 _ _ (S67 _ _ hul2)⟩, S8 _ _ (S7 _ _ (S5 _ _ hr3)), .inr ⟨List.cons_ne_nil _ _, rfl, (hbk.on S67).on S8⟩, plain_ok, rfl⟩)
          · rw [if_neg cut] at hul2 d2ok ⊢
            rw [decide_eq_false due_plain]
            refine iteF ⟨_, rfl, ?_⟩
            have shp : SeqAt.shaped (seenD (looksFrom (past.length + 1) more)) = true := seen_shaped lk
            have L8 := L6.on S67
            have fin : SeenAt H6 sn (looksFrom (past.length + 1) more) ∧ Judged C b H6 xs past pg more (dueS er) o := by
              cases o with
              | told q =>
                obtain ⟨h1, h2, _, h3, h4⟩ := hen6
                exact ⟨h4, .inl ⟨by rw [h2]; rfl, by rw [h1], h3⟩⟩
              | err e =>
                obtain ⟨h1, _, h2, h3⟩ := hen6
                exact ⟨h3, .inr ⟨by rw [h1]; exact List.cons_ne_nil _ _, by rw [h1]; rfl, h2⟩⟩
              | plain => exact absurd hen6.1 cut
            refine ⟨_, _, seen_dp (fin.1.on S67), seen_dp (hsee6.on S67), shp, shp, _, rfl, ?_⟩
            rw [self shp]
            exact iteF (key _ _ ⟨_, by omega, j3'.on (S5.trans S7), ul2, dueS er, r, o, some (.ref sn), some (.int (ends : Int)), some (.ref D), t12, ⟨L8.k, L8.t, L8.pl, L8.ps, L8.dl, L8.ml, L8.ms, S67 _ _ hul2⟩, S7 _ _ (S5 _ _ hr3), fin.2.on S67, hduo, rfl⟩)
    have okp := A8.ok
    have lnp := A8.len
    have gsm := A8.gs
    have lnm := A8.ln
    have xl6 := A8.xl
    clear A8 j8 hn8
    rintro σ' H9 ⟨n9, hn9, j9, ul, due, tl, o, t7, t8, t10, t12, L9, htl, hju, hduo, rfl⟩
    have zok : ∀ z ∈ o.zs, PyData.strOk z = true := hd_ok (hju.elim (fun h => .inl ⟨_, h.2.1⟩) fun h => .inr h.2.1) hduo
    refine nx_intro ?_
    refine tif_join (fun σ' H' => Same H9 H' ∧ σ' = [some (.ref j), some (.ref b), some (.ref pl), some (.int (0 + (i : Int))), some (.ref dl), some (.ref ml), some (.ref ul), t7, t8, some (.ref tl), t10, t11, t12]) ?_ (fun key => ?_)
    case refine_2 =>
      refine ⟨_, rfl, _, rfl, by decide, fun e he => ⟨.list (due.map PyData.str), .list [], .lst (SqL.of (same_new he _ _ L9.ul)) (dp_strs _), .lst (SqL.of upd_same) .nil, strs_shaped _ hduo, by decide +kernel, _, rfl, ?_⟩⟩
      rw [show PyData.eqv (.list (due.map PyData.str)) (.list []) = decide (due = []) from eqv_strs _ []]
      have Se : Same H9 (L2.upd H9 e (.lst [])) := same_new he
      rcases hju with ⟨hd1, hd2, hd3⟩ | ⟨hd1, hd2, hd3⟩
      · rw [decide_eq_true hd1]
        refine iteF ⟨_, rfl, dl, xs, rfl, .inl (SqL.of (Se _ _ L9.dl)), _, rfl, log_small (show xs.length < 10000 by omega), sz2, fun e2 he2 => ?_⟩
        have S2 := Se.trans (same_new (o := .lst [.str "told", .str (toString ((xs.length : Nat) : Int))]) he2)
        refine ⟨.list (o.zs.map PyData.str), .list (o.zs.map PyData.str), .lst (SqL.of (S2 _ _ htl)) (dp_strs _), .lst (SqL.of (xs := o.zs.map V.str) (by rw [hd2]; exact upd_same)) (dp_strs _), strs_shaped _ zok, strs_shaped _ zok, _, rfl, ?_⟩
        rw [eqv_strs, decide_eq_true rfl]
        exact iteF (key _ _ ⟨S2, rfl⟩)
      · rw [decide_eq_false hd1]
        refine iteT ⟨_, rfl, .list (o.zs.map PyData.str), .list (due.map PyData.str), .lst (SqL.of (Se _ _ htl)) (dp_strs _), .lst (SqL.of (Se _ _ L9.ul)) (dp_strs _), strs_shaped _ zok, strs_shaped _ hduo, _, rfl, ?_⟩
        rw [eqv_strs, decide_eq_true hd2]
        exact iteF (key _ _ ⟨Se, rfl⟩)
    rintro σ' H10 ⟨S10, rfl⟩
    refine nx_intro ?_
    rw [q_seq]
    refine tasg_join (fun v G => ∃ pl2 ps2 past2 pg2, v = .ref pl2 ∧ Same H10 G ∧ wo j G pl2 = some (.lst ps2) ∧ LPs (wo j G) ps2 (past2 ++ [pg2]) ∧ BookAt C G b pg2 past2 ∧ (∀ g ∈ past2 ++ [pg2], PgOk g ∧ g.ws.length ≤ 5 * (i + 1)) ∧ past2.length ≤ 5 * (i + 1)) ?_ (fun key => ?_)
    case refine_2 =>
      have L10 := L9.on S10
      have j10 := j9.on S10
      have hpn : ps.length = past.length + 1 := by
        have := L10.ps.len
        rw [List.length_append] at this
        exact this
      have hmn : ms.length = more.length + 1 := L10.ms.len
      have e0 : ∀ {σ : L2.St} {H : Hp} {R : Option Int → Hp → Prop}, R none H → tNoPart σ H R := fun h => h
      refine ⟨_, rfl, _, rfl, by decide, fun e he => ⟨.list (due.map PyData.str), .list [], .lst (SqL.of (same_new he _ _ L10.ul)) (dp_strs _), .lst (SqL.of upd_same) .nil, strs_shaped _ hduo, by decide +kernel, _, rfl, ?_⟩⟩
      rw [show PyData.eqv (.list (due.map PyData.str)) (.list []) = decide (due = []) from eqv_strs _ []]
      have Se : Same H10 (L2.upd H10 e (.lst [])) := same_new he
      rcases hju.imp (fun h => h) (fun h => h) with ⟨hd1, hd2, hd3⟩ | ⟨hd1, hd2, hd3⟩
      · rw [decide_eq_true hd1]
        refine iteT ⟨_, rfl, _, rfl, ?_⟩
        refine e0 ⟨ml, ms, rfl, SqL.of (Se _ _ (wo_same _ _ L10.ml)), fun p hp => ?_⟩
        have e1 : cutV ms (some 1) none = ms.drop 1 := cut_drop (i := 1)
        rw [e1]
        have Sp := Se.trans (same_new (o := .lst (ms.drop 1)) hp)
        refine ⟨pl, p, ps, ms.drop 1, rfl, rfl, Sp _ _ (wo_same _ _ L10.pl), upd_same, Nat.le_trans (show ps.length + (ms.drop 1).length ≤ 100 by rw [List.length_drop]; omega) (by decide), fun p2 hp2 => ?_⟩
        have Sq := Sp.trans (same_new (o := .lst (ps ++ ms.drop 1)) hp2)
        have el : (past ++ pg :: more).dropLast ++ [lastP pg more] = (past ++ [pg]) ++ more := by
          rw [last_split, List.append_assoc]
          rfl
        refine key _ _ ⟨p2, _, (past ++ pg :: more).dropLast, lastP pg more, rfl, Sq, wo_at ((j10.on Sp).ne hp2) upd_same, ?_, hd3.on (S10.trans Sq), fun g hg => ?_, ?_⟩
        · rw [el]
          exact P2.app (L10.ps.on (wo_mono Sq)) ((P2.drop 1 L10.ms).imp fun v g ⟨l, h⟩ => ⟨l, h.on (wo_mono Sq)⟩)
        · rw [el] at hg
          rcases List.mem_append.mp hg with hg | hg
          · exact ⟨(okp g hg).1, by have := (okp g hg).2; omega⟩
          · exact gsm g hg
        · simp only [List.length_dropLast, List.length_append, List.length_cons]
          omega
      · rw [decide_eq_false hd1]
        refine iteF ⟨by decide, fun p hp => ?_⟩
        have Sp := Se.trans (same_new (o := .lst []) hp)
        refine ⟨pl, p, ps, [], rfl, rfl, Sp _ _ (wo_same _ _ L10.pl), upd_same, Nat.le_trans (show ps.length + 0 ≤ 100 by omega) (by decide), fun p2 hp2 => ?_⟩
        have Sq := Sp.trans (same_new (o := .lst (ps ++ [])) hp2)
        refine key _ _ ⟨p2, _, past, pg, rfl, Sq, wo_at ((j10.on Sp).ne hp2) upd_same, ?_, hd3.on (S10.trans Sq), fun g hg => ⟨(okp g hg).1, by have := (okp g hg).2; omega⟩, by omega⟩
        exact (L10.ps.on (wo_mono Sq)).apn
    rintro v11 H11 ⟨pl2, ps2, past2, pg2, rfl, S11, hpl2, hps2, hbk2, hok2, hln2⟩
    have L11 := (L9.on S10).on S11
    have j11 := (j9.on S10).on S11
    rw [q_name]
    refine nx_intro ?_
    obtain ⟨v2, hv2, l2, hlp2⟩ := hps2.last (b := pg2) (by rw [List.length_append]; simp)
    have hpn2 : ps2.length = past2.length + 1 := by
      have := hps2.len
      rw [List.length_append] at this
      exact this
    obtain ⟨hg2, hgl2⟩ := hok2 pg2 (List.mem_append_right _ List.mem_cons_self)
    have en : ((ps2.length : Int) - 1) = (past2.length : Int) := by omega
    refine ⟨_, rfl, _, rfl, _, rfl, pl2, ps2, _, v2, rfl, rfl, SqL.of (wo_same _ _ hpl2), atI_neg1 hv2, _, rfl, pl2, ps2, rfl, .inl (SqL.of (wo_same _ _ hpl2)), _, _, rfl, rfl, ?_⟩
    refine ⟨b, v2, past2.length, pg2, past2, by rw [← en]; rfl, hbk2, rfl, by omega, hlp2.pg.on wo_same, hg2, by omega, fun H12 S12 => ⟨_, rfl, iteF ?_⟩⟩
    have L12 := L11.on S12
    exact ⟨(j11.on S12).mono (by omega), pl2, ps2, past2, pg2, ⟨L12.k, I.nb, L12.t, hbk2.on S12, wo_mono S12 _ _ hpl2, hps2.on (wo_mono S12), hok2, hln2⟩, _, _, _, _, _, _, _, _, _, _, rfl⟩
  · rintro σ H3 ⟨j3, pl, ps, past, pg, I, t3, t4, t5, t6, t7, t8, t9, t10, t11, t12, rfl⟩
    clear I0 j2
    have hpl := wo_same _ _ I.pl
    have hps : LPs H3 ps (past ++ [pg]) := I.ps.on wo_same
    have hpn : ps.length = past.length + 1 := by
      have := hps.len
      rw [List.length_append] at this
      exact this
    have hln := I.len
    have hok := I.ok
    obtain ⟨nd, md, pd, ⟨dx3, hbi⟩, _, _⟩ := id I.bk
    have hbj : b ≠ j := j3.nel hbi (fun _ z => by cases z)
    refine nx_intro ?_
    refine ⟨_, rfl, pl, ps, rfl, .inl (SqL.of hpl), _, _, rfl, rfl, _, rfl, by omega, by omega, ?_⟩
    rw [show ((ps.length : Int) - 1).toNat = past.length by omega]
    refine for_it (walk_range (lo := 0) (n := past.length)) (fun i σ G => ∃ pastk pgk rest, past ++ [pg] = pastk ++ pgk :: rest ∧ rest.length = i ∧ BookAt C G b pgk pastk ∧ But b H3 G ∧ Tabs T G ∧ ∃ t12, σ = [some (.ref j), some (.ref b), some (.ref pl), t3, t4, t5, t6, t7, t8, t9, t10, t11, t12]) ⟨past, pg, [], rfl, rfl, I.bk, But.refl _, I.t, t12, rfl⟩ (fun _ _ _ _ _ => True.intro) ?_ ?_
    · rintro k y σ G G' hk ⟨pastk, pgk, rest, hsp, hrl, hbk, BG, TG, t12, rfl⟩ ⟨rfl, rfl⟩
      have ll := congrArg List.length hsp
      simp only [List.length_append, List.length_cons, List.length_nil] at ll
      obtain ⟨p, past2, rfl⟩ : ∃ p past2, pastk = past2 ++ [p] := by
        rcases List.eq_nil_or_concat pastk with z | ⟨l, a, z⟩
        · rw [z] at ll
          simp at ll
          omega
        · exact ⟨a, l, by rw [z]; simp⟩
      rw [List.length_append, List.length_singleton] at ll
      obtain ⟨_, _, _, ⟨dx4, hb4⟩, _, _⟩ := id hbk
      refine ⟨_, rfl, b, dx4, _, rfl, hb4, rfl, b, pgk, p, past2, rfl, hbk, by omega, fun G2 B2 bk2 => ?_⟩
      refine ⟨rfl, _, rfl, ?_⟩
      rw [show (!decide (V.non = V.non)) = false by rw [decide_eq_true rfl]; rfl]
      have N2 : NI H3 G2 := NI.ins hbi (BG.trans B2)
      have hmem : p ∈ past ++ [pg] := by rw [hsp]; simp
      obtain ⟨hg2, hgl2⟩ := hok p hmem
      obtain ⟨v2, hv2, l2, hlp2⟩ := P2.get (i := past2.length) (b := p) (hps.ni N2) (by rw [hsp, List.append_assoc, List.getElem?_append_right (Nat.le_refl _), Nat.sub_self]; rfl)
      have at2 : atI ps (-2 - (0 + (k : Int))) = some v2 := by
        rw [show (-2 - (0 + (k : Int))) = -1 - ((k + 1 : Nat) : Int) by omega]
        refine atI_back (by omega) ?_
        rw [show ps.length - 1 - (k + 1) = past2.length by omega]
        exact hv2
      have en : ((ps.length : Int) - 2 - (0 + (k : Int))) = (past2.length : Int) := by omega
      refine iteF ⟨_, rfl, _, rfl, _, rfl, _, rfl, _, _, rfl, rfl, pl, ps, _, v2, rfl, rfl, SqL.of (N2.lst hpl), at2, _, rfl, pl, ps, rfl, .inl (SqL.of (N2.lst hpl)), _, _, rfl, rfl, _, rfl, _, _, rfl, rfl, ?_⟩
      refine ⟨b, v2, past2.length, p, past2, by rw [← en]; rfl, bk2, rfl, by omega, hlp2.pg, hg2, by omega, fun G3 S3 => ⟨_, rfl, iteF ?_⟩⟩
      refine ⟨past2, p, pgk :: rest, by rw [hsp, List.append_assoc]; rfl, by rw [List.length_cons, hrl], bk2.on S3, (BG.trans B2).trans (But.of S3), ?_, _, rfl⟩
      exact (tabs_ins hb4 B2 TG).ext S3
    · rintro σ G ⟨pastk, pgk, rest, hsp, hrl, hbk, BG, TG, t12, rfl⟩
      refine hQ G (fun a o hj h0 ht => BG a o (fun z => ?_) (I.k a o hj h0 ht)) TG
      rw [z, I.nb] at h0
      cases h0
end
end Pp
-- G22
namespace Pp
open PySem PySem.Spec PyProof.Rows L2 NdefX LamX
abbrev s_law : Stmt := top 86
theorem sc_law : FnScope ["_law_cells", "_law_k"] ["_law_cells"] (defScope s_law) := ⟨rfl, rfl, rfl, by decide +kernel, rfl, by decide +kernel, by decide +kernel⟩
abbrev N_law : List Str := ["_law_cells", "_law_k"]
def spLaw (K : PySem.W.Frag) (T : List (Addr × Str)) : Sp := fun vs H Q _ => ∃ (a : Addr) (ns : List Int), vs = [.ref a] ∧ SqL K H a (ns.map V.int) ∧ Tabs T H ∧ ns.length ≤ 1000 ∧ ∀ H', Q (.bl true) H'
theorem sqL_keep {K : PySem.W.Frag} {H H' : Hp} {a l : Addr} {xs : List V} (hn : H l = none) (k : ∀ a o, a ≠ l → H a = some o → (∀ qs, o ≠ .tbl qs) → H' a = some o) (h : SqL K H a xs) : SqL K H' a xs := by
  have nl : ∀ {o : HO}, H a = some o → a ≠ l := fun h z => by rw [z, hn] at h; cases h
  rcases h with (h | ⟨o, h⟩) | h
  · exact .inl (.inl (k _ _ (nl h) h (fun _ z => by cases z)))
  · exact .inl (.inr ⟨o, k _ _ (nl h) h (fun _ z => by cases z)⟩)
  · exact .inr h
section
variable {P : Program} {w : World} {K : PySem.W.Frag} {mg : Str → Option Value} {base : Heap} {C : Addr}
theorem d_law {T : List (Addr × Str)} (F : At K mg "law" s_law) (B : Blt mg) (D_l_jug : Dn P w K mg base CX0 1 "_law_jug" ["_law_cells", "_law_k"] (spJug K)) (D_l_right : DnG P w K mg base (L2N.CX P w) 18 "_law_right" ["_law_jug_here"] (spRight T)) :
    DnG P w K mg base (L2N.CX P w) 19 "law" ["_law_cells"] (spLaw K T) := by
  refine F.okG sc_law (fun vs H Q E h => ?_) (fun _ _ _ _ _ _ us hl => match us, hl with | [_], _ => rfl) (fun f cdv A outer s H vs Q E hr hgd h => ?_)
  · obtain ⟨_, _, rfl, _⟩ := h
    rfl
  obtain ⟨a, ns, rfl, hs, hT, hl, k⟩ := h
  refine ⟨_, (pss_cons (ps_for (passes_of rfl) rfl (pi_range1 rfl B.range (pa_cons (pe_callB (call_max2 rfl) (by rfl) B.max (by decide +kernel) (pa_cons pe_int (pa_cons (pe_callB (call_min2 rfl) (by rfl) B.min (by decide +kernel) (pa_cons (pe_callB (id := "len") call_len_seq (by rfl) B.len (by decide +kernel) (pa_cons (pv 0) pa_nil)) (pa_cons pe_int pa_nil))) pa_nil))) pa_nil)) (pg_name (i := 1) sc_law.nd rfl (.inl rfl))
    (pss_one (ps_if (pt_not (pt_val (pe_fnG D_l_right hr (by decide) (by exact hgd) rfl (L2N.passes_call (L2N.takes_of rfl rfl rfl rfl) (fun _ _ _ _ h => h)) (pa_cons (pe_fn D_l_jug hr (by decide) rfl (pa_cons (pv 0) (pa_cons (pv 1) pa_nil))) pa_nil)))) (pss_one (ps_ret pe_bl)) pss_nil)))
  (pss_one (ps_ret pe_bl))), ?_⟩
  refine ⟨_, rfl, a, _, rfl, .inl hs, _, _, rfl, _, _, rfl, _, rfl, (by split <;> (try split) <;> omega), (by split <;> (try split) <;> omega), ?_⟩
  generalize hz : (if (if (5 : Int) < ((ns.map V.int).length : Int) then (5 : Int) else ((ns.map V.int).length : Int)) > 1 then (if (5 : Int) < ((ns.map V.int).length : Int) then (5 : Int) else ((ns.map V.int).length : Int)) else 1) = z
  have hz5 : z ≤ 5 := by
    rw [← hz]
    split <;> (try split) <;> omega
  refine for_it (walk_range (lo := 0) (n := z.toNat)) (fun i σ G => SqL K G a (ns.map V.int) ∧ Tabs T G ∧ ∃ t1, σ = [some (.ref a), t1]) ⟨hs, hT, none, rfl⟩ (fun _ _ _ _ _ => True.intro) ?_ ?_
  · rintro i y σ G G' hi ⟨hs, hT, t1, rfl⟩ ⟨rfl, rfl⟩
    refine ⟨_, rfl, _, rfl, a, ns, i, ?_, hs, by omega, fun l G2 S2 hn J => ⟨l, rfl, hT.ext S2, J, fun G3 k3 T3 => ⟨_, rfl, iteF ⟨sqL_keep hn (fun b o h1 h2 h3 => k3 b o h1 (S2 _ _ h2) h3) hs, T3, _, rfl⟩⟩⟩⟩
    show [V.ref a, V.int (0 + (i : Int))] = [V.ref a, V.int (i : Int)]
    rw [Int.zero_add]
  · rintro σ G ⟨hs, hT, t1, rfl⟩
    exact k G
end
end Pp
-- G23
namespace Pp
open PySem PySem.Spec PyProof.Rows L2 LamX
/-! the law's own call, where no repr is under way: the script may be locked, the tables of code are told, all else is hidden -/
abbrev scr (vs : List Value) : Obj := { cls := .type "list", data := .seq vs.toArray }
def endH (K : PySem.W.Frag) (tb : List Addr) (a : Addr) (vs : List Value) (ns : List Int) : Hp := fun b =>
  if b ∈ tb then some (.tbl #[]) else if b = a ∧ (K.lookup a).isNone = true then some (.frz (scr vs) (.lst (ns.map V.int))) else none
section
variable {K : PySem.W.Frag} {tb : List Addr} {a b : Addr} {vs : List Value} {ns : List Int}
theorem endH_tab (h : b ∈ tb) : endH K tb a vs ns b = some (.tbl #[]) := if_pos h
theorem endH_inv {u : HO} (h : endH K tb a vs ns b = some u) : (b ∈ tb ∧ u = .tbl #[]) ∨ (b = a ∧ K.lookup a = none ∧ u = .frz (scr vs) (.lst (ns.map V.int))) := by
  unfold endH at h
  split at h
  · rename_i hb
    exact .inl ⟨hb, (Option.some.inj h).symm⟩
  · split at h
    · rename_i hb
      exact .inr ⟨hb.1, Option.isNone_iff_eq_none.mp hb.2, (Option.some.inj h).symm⟩
    · cases h
end
/-- the law's promise at the head's heap -/
def LawG (l : PySem.W.OpenLaw) (w : World) (K : PySem.W.Frag) (CX : CXT) (k n : Nat) (x : Str) (mg : Str → Option Value) (fa : Addr) (h : Heap) : Prop :=
  ∃ (cs : List (Addr × Addr)) (sp : Sp), (∀ p ∈ cs, h.get? p.2 = some { cls := .none, data := .fields #[] } ∧ K.lookup p.2 = none ∧ PySem.W.CodeHd h p.1 p.2) ∧
    (∀ (H : Hp) (a : Addr) (ns : List Int), ns.length ≤ n → (∀ p ∈ cs, H p.2 = some (.tbl #[])) → SqL K H a (ns.map V.int) → sp [.ref a] H (fun v _ => v = .bl true) fun _ _ _ => False) ∧
    ∀ base : Heap, K.In base → base.Ns mainGlobals mg → (∀ p ∈ cs, TabB base mg p.1 p.2) → FnG l.prog w K mg base CX k fa [x] sp
theorem walk_G {l : PySem.W.OpenLaw} {n k : Nat} {q : Program} {loose : List Str} {XP : (Str → Option Value) → Heap → Prop} {YP : World → Heap → Prop} {d : DefRec} {K : Params → PySem.W.Frag} {CX : World → CXT} {x : Str} (hn : l.most = some n) (hz : n ≤ sizeLine) (hdf : d.params.defaults = []) (hr : Room k callerA)
    (hY : ∀ (w : World) (h : Heap), YP w h → (K w.params).In h) (hF : ∀ (w : World) (mg : Str → Option Value) (fa : Addr) (h : Heap), YP w h → (K w.params).In h → h.Ns mainGlobals mg → mg d.name = some (.ref fa) → LawG l w (K w.params) (CX w) k n x mg fa h)
    (hC : ∀ (w : World) (H : Hp) (s : Shared) (e : Value) (s' : Shared), CX w [] H s (fun _ _ _ => False) e s' → False) : PySem.W.WalkO q loose XP YP l.row.toRowW d [] fun f vs => PySem.call f vs := by
  refine Att.attach_callB hn hdf fun w s₀ s mg mb fa o pm cd doc a vs ns G Y _ _ _ hm ha hi hl _ hg => ?_
  have KX := hY w _ Y
  obtain ⟨cs, sp, hT, hsp, F⟩ := hF w mg fa _ Y KX G.T.g hm
  obtain ⟨mc, lim1, lim2⟩ := G.T.nolimit
  obtain ⟨bm, ob, bm1, bm2, bm3, bm4, bm5, bm6⟩ := G.T.bmain
  have rv := vals_ints hi
  have lv := hi.length
  have inT : ∀ {b : Addr}, b ∈ cs.map (·.2) → s.heap.get? b = some { cls := .none, data := .fields #[] } ∧ (K w.params).lookup b = none := fun hb => by
    obtain ⟨p, hp, rfl⟩ := List.mem_map.mp hb
    exact ⟨(hT p hp).1, (hT p hp).2.1⟩
  have ofT : ∀ p ∈ cs, p.2 ∈ cs.map (·.2) := fun p hp => List.mem_map_of_mem hp
  generalize hE : endH (K w.params) (cs.map (·.2)) a vs ns = H
  have inv : ∀ {b : Addr} {u : HO}, H b = some u → (b ∈ cs.map (·.2) ∧ u = .tbl #[]) ∨ (b = a ∧ (K w.params).lookup a = none ∧ u = .frz (scr vs) (.lst (ns.map V.int))) := fun h => endH_inv (by rw [hE]; exact h)
  have tabH : ∀ {b : Addr}, b ∈ cs.map (·.2) → H b = some (.tbl #[]) := fun h => by
    rw [← hE]
    exact endH_tab h
  -- what is neither a table nor a list is not told
  have bare : ∀ {b : Addr} {o : Obj}, s.heap.get? b = some o → (∀ us m, o.data = .seq us m → False) → (o.data = .fields #[] → False) → H b = none := fun {b o} e n1 n2 => by
    cases q : H b with
    | none => rfl
    | some u =>
      rcases inv q with ⟨hb, _⟩ | ⟨rfl, _⟩
      · have z := (inT hb).1.symm.trans e
        cases z
        exact (n2 rfl).elim
      · have z := ha.symm.trans e
        cases z
        exact (n1 _ _ rfl).elim
  have nsB : ∀ {b : Addr} {m : Str → Option Value}, s.heap.Ns b m → (hidT s.heap H).Ns b m := fun ⟨o, es, ep, e, dt, r⟩ => ⟨o, es, ep, hidT_get e (bare e (fun us m z => by rw [dt] at z; cases z) fun z => by rw [dt] at z; cases z), dt, r⟩
  have kB : (K w.params).In (hidT s.heap H) := fun b o e => hidT_get (KX b o e) (by
    cases q : H b with
    | none => rfl
    | some u =>
      rcases inv q with ⟨hb, _⟩ | ⟨rfl, z, _⟩
      · rw [(inT hb).2] at e
        cases e
      · rw [z] at e
        cases e)
  have bmB : (hidT s.heap H).get? bm = some ob := hidT_get bm3 (bare bm3 (fun us m z => by rw [bm6] at z; cases z) fun z => by rw [bm6] at z; cases z)
  have gTab : ∀ {b : Addr}, b ∈ cs.map (·.2) → mainGlobals ≠ b := fun hb z => by
    obtain ⟨o, es, ep, e, dt, _⟩ := G.T.g
    rw [z, (inT hb).1] at e
    cases e
    cases dt
  have TB : ∀ p ∈ cs, TabB (hidT s.heap H) mg p.1 p.2 := fun p hp => by
    refine ⟨?_, ⟨bm, ob, bm1, bm2, fun z => ?_, fun z => ?_, bmB, bm4, bm5, bm6⟩, gTab (ofT p hp)⟩
    · obtain ⟨o, us, file, tf, flags, tg, inF, text, tt, e, q1, q2, q3, r⟩ := (hT p hp).2.2
      refine ⟨o, us, file, tf, flags, tg, inF, text, tt, hidT_get e (bare e (fun us' m z => ?_) fun z => ?_), q1, q2, q3, r⟩
      · rw [q2] at z
        cases z
      · rw [q2] at z
        cases z
        simp at q3
    · obtain ⟨o, es, ep, e, dt, _⟩ := G.T.g
      rw [← z, bm3] at e
      cases e
      rw [bm6] at dt
      cases dt
    · have e := (hT p hp).1
      rw [← z, bm3] at e
      cases e
      cases bm6
  have okH : HOk l.prog w H s.heap := fun b u q => by
    rcases inv q with ⟨hb, rfl⟩ | ⟨rfl, _, rfl⟩
    · exact (inT hb).1
    · exact ⟨ha, by rw [List.length_map]; exact Nat.le_trans hl hz, vs, _, rv, ha⟩
  have sq : SqL (K w.params) H a (ns.map V.int) := by
    cases hk : (K w.params).lookup a with
    | some o =>
      have e := (KX a o hk).symm.trans ha
      cases e
      exact .inr ⟨_, vs.toArray, _, hk, rfl, rfl, rfl, by rw [List.size_toArray, lv]; exact Nat.le_trans hl hz, by simpa using rv⟩
    | none =>
      refine .inl (.inr ⟨scr vs, ?_⟩)
      rw [← hE]
      unfold endH
      rw [if_neg (fun hb => ?_), if_pos ⟨rfl, by rw [hk]; rfl⟩]
      have z := (inT hb).1.symm.trans ha
      cases z
  have e0 : Env0 l.prog w (K w.params) mg (hidT s.heap H) callerA [] s H := ⟨rfl, ⟨kB, nsB G.T.g, ⟨mb, nsB G.T.b, G.T.builtins⟩, ⟨mc, nsB lim1, lim2⟩⟩, fun b o e => of_hidT e, Nat.le_of_eq (hidT_size _ _), trivial, (fun b hb => by cases hb), okH, .of_eq hg⟩
  refine codeAny_mono ((F _ kB (nsB G.T.g) TB).run callerA [] s H [.ref a] [.ref a] _ _ hr rfl e0 (.cons rfl .nil) (hsp H a ns hl (fun p hp => tabH (ofT p hp)) sq)) fun r s' h => ?_
  cases r with
  | error e => exact (hC w H s e s' h).elim
  | ok fl =>
    cases fl with
    | next => exact h.elim
    | brk => exact h.elim
    | cont => exact h.elim
    | ret u =>
      obtain ⟨v, H', hos, hb', un, ok', rr, hv⟩ := h
      have hv : v = .bl true := hv
      subst hv
      obtain rfl : u = Value.bool true := rr
      have stay : ∀ {b : Addr} {o : Obj}, b ∉ cs.map (·.2) → s.heap.get? b = some o → s'.heap.get? b = some o := fun {b o} nb e => by
        cases q : H b with
        | none => exact un.keep b o e q (fun z => by cases z) (fun z => by cases z)
        | some u =>
          rcases inv q with ⟨hb, _⟩ | ⟨rfl, _, rfl⟩
          · exact (nb hb).elim
          · have e2 := (ok' _ _ (un.frzs _ _ _ q)).1
            rw [ha] at e
            cases e
            exact e2
      have grown : ∀ {b : Addr}, b ∈ cs.map (·.2) → ∃ more : Array Value, s'.heap.get? b = some { cls := .none, data := .fields more } := fun {b} hb => by
        obtain ⟨more, z⟩ := un.tbls b #[] (tabH hb)
        exact ⟨_, ok' b _ z⟩
      refine ⟨rfl, ⟨fun b o e => ?_, fun b o e => ?_⟩, hos, hb'⟩
      · by_cases hb : b ∈ cs.map (·.2)
        · obtain ⟨more, hm⟩ := grown hb
          obtain ⟨p, hp, rfl⟩ := List.mem_map.mp hb
          rw [(hT p hp).1] at e
          cases e
          exact .inr (.inl ⟨((hT p hp).2.2.tab (hT p hp).1).isCodeTable, rfl, #[], more, rfl, by rw [Array.empty_append]; exact hm⟩)
        · exact .inl (stay hb e)
      · by_cases hb : b ∈ cs.map (·.2)
        · obtain ⟨more, hm⟩ := grown hb
          exact ⟨_, hm⟩
        · exact ⟨o, stay hb e⟩
end Pp
-- G24
namespace Pp
open PySem PySem.Spec PyProof.Rows L2 LamX
/-- what the head has left -/
structure Facts (K : PySem.W.Frag) (w : World) (mg : Str → Option Value) (C c1 c2 : Addr) : Prop where
  B : Blt mg
  BK : BkT K mg C
  MK : MkT K C
  nb : PySem.W.findIn K (.ref C) "__bool__" = some none
  EK : ErK K mg
  SK : SlipK K mg
  HK : HeardK K mg
  TF : Tbl K w mg "FORMS" formsL []
  TI : Tbl K w mg "ITEMS_OF" itemsL ["Put"]
  ms : ∃ tk, mg "MOST_SIZE" = some (.int (10 ^ 30) tk)
  lt : ∃ tk, mg "LETTERS" = some (.str "abcdefghijklmnopqrstuvwxyz" tk)
  ml : ∃ tk, mg "MOST_LETTERS" = some (.int 8 tk)
  al : ∃ tk, mg "ALL" = some (.str "all" tk)
  f_power_of : At K mg "power_of" s_power_of
  f_common_divisor : At K mg "common_divisor" s_common_divisor
  f_floor_root : At K mg "floor_root" s_floor_root
  f_is_power : At K mg "is_power" s_is_power
  f_whole_root : At K mg "whole_root" s_whole_root
  f_base_and_exponent : At K mg "base_and_exponent" s_base_and_exponent
  f_base_for : At K mg "base_for" s_base_for
  f_lowest : At K mg "lowest" s_lowest
  f_raised : At K mg "raised" s_raised
  f_root_for : At K mg "root_for" s_root_for
  f_four_for : At K mg "four_for" s_four_for
  f_odd_part : At K mg "odd_part" s_odd_part
  f_shared : At K mg "shared" s_shared
  f_is_split_by_four : At K mg "is_split_by_four" s_is_split_by_four
  f_does_split : At K mg "does_split" s_does_split
  f_is_always : At K mg "is_always" s_is_always
  f_is_integer : At K mg "is_integer" s_is_integer
  f_is_between : At K mg "is_between" s_is_between
  f_is_number : At K mg "is_number" s_is_number
  f_check_number : At K mg "check_number" s_check_number
  f_is_name : At K mg "is_name" s_is_name
  f_prime_divisors : At K mg "prime_divisors" s_prime_divisors
  f_primes_for : At K mg "primes_for" s_primes_for
  f_own_kind : At K mg "own_kind" s_own_kind
  f_kind_of : At K mg "kind_of" s_kind_of
  f_begins_with_word : At K mg "begins_with_word" s_begins_with_word
  f_is_wish : At K mg "is_wish" s_is_wish
  f_is_deed : At K mg "is_deed" s_is_deed
  f_names_in : At K mg "names_in" s_names_in
  f_holds : At K mg "holds" s_holds
  f_init : AtM K C "__init__" "Book.__init__" s_Book___init__
  f_names : AtP K C "names" "Book.names" s_Book_names
  f_wishes : AtP K C "wishes" "Book.wishes" s_Book_wishes
  f_changes : AtP K C "changes" "Book.changes" s_Book_changes
  f_become : AtM K C "become" "Book.become" s_Book_become
  f_len : AtM K C "__len__" "Book.__len__" s_Book___len__
  f_has : AtM K C "__contains__" "Book.__contains__" s_Book___contains__
  f_known : AtM K C "check_known" "Book.check_known" s_Book_check_known
  f_get : AtM K C "__getitem__" "Book.__getitem__" s_Book___getitem__
  f_set : AtM K C "__setitem__" "Book.__setitem__" s_Book___setitem__
  f_wish : AtM K C "wish" "Book.wish" s_Book_wish
  f_lift : AtM K C "lift" "Book.lift" s_Book_lift
  f_drop : AtM K C "drop" "Book.drop" s_Book_drop
  f_do : AtM K C "do" "Book.do" s_Book_do
  f_do_all : AtD K C "do_all" "Book.do_all" s_Book_do_all [("watch", .non)]
  f_l_looked : At K mg "_law_looked" s_l_looked
  f_l_all : At K mg "_law_all" s_l_all
  f_l_called : AtT K mg "_law_called" s_l_called c1
  f_l_slip : At K mg "_law_slip" s_l_slip
  f_l_heard : At K mg "_law_heard" s_l_heard
  f_l_pull : At K mg "_law_pull" s_l_pull
  f_l_one_of : At K mg "_law_one_of" s_l_one_of
  f_l_common : At K mg "_law_common" s_l_common
  f_l_power : At K mg "_law_power" s_l_power
  f_l_is_four : At K mg "_law_is_four" s_l_is_four
  f_l_splits : At K mg "_law_splits" s_l_splits
  f_l_is_always : At K mg "_law_is_always" s_l_is_always
  f_l_kind : At K mg "_law_kind" s_l_kind
  f_l_answer : At K mg "_law_answer" s_l_answer
  f_l_broken : At K mg "_law_broken" s_l_broken
  f_l_pair : At K mg "_law_pair" s_l_pair
  f_l_small : At K mg "_law_small" s_l_small
  f_l_plan : At K mg "_law_plan" s_l_plan
  f_l_some_n : At K mg "_law_some_n" s_l_some_n
  f_l_new_wish : At K mg "_law_new_wish" s_l_new_wish
  f_l_new_deed : At K mg "_law_new_deed" s_l_new_deed
  f_l_told_deed : At K mg "_law_told_deed" s_l_told_deed
  f_l_named : At K mg "_law_named" s_l_named
  f_l_behind : At K mg "_law_behind" s_l_behind
  f_l_many : At K mg "_law_many" s_l_many
  f_l_spoilt : At K mg "_law_spoilt" s_l_spoilt
  f_l_jug : At K mg "_law_jug" s_l_jug
  f_undo : AtM K C "undo" "Book.undo" s_Book_undo
  f_l_book_is : At K mg "_law_book_is" s_l_book_is
  f_l_right : AtT K mg "_law_right" s_l_right c2
  f_law : At K mg "law" s_law
section
variable {P1 P2 : Addr} {q1 q2 : Str}
theorem tabs_one1 (ne : P1 ≠ P2) : ∀ p ∈ [(P1, q1), (P2, q2)], p.1 = P1 → p.2 = q1 := fun p hp e => by
  rcases List.mem_cons.mp hp with rfl | hp
  · rfl
  · rw [List.mem_singleton.mp hp] at e
    exact absurd e (Ne.symm ne)
theorem tabs_one2 (ne : P1 ≠ P2) : ∀ p ∈ [(P1, q1), (P2, q2)], p.1 = P2 → p.2 = q2 := fun p hp e => by
  rcases List.mem_cons.mp hp with rfl | hp
  · exact absurd e ne
  · rw [List.mem_singleton.mp hp]
end
theorem law_dn {P : Program} {w : World} {K : PySem.W.Frag} {mg : Str → Option Value} {base : Heap} {C c1 c2 P1 P2 : Addr} (FX : Facts K w mg C c1 c2) (TB1 : TabB base mg c1 P1) (TB2 : TabB base mg c2 P2) (ne : P1 ≠ P2) : DnG P w K mg base (L2N.CX P w) 19 "law" ["_law_cells"] (spLaw K [(P1, q_called), (P2, q_right)]) := by
  obtain ⟨_, hms⟩ := FX.ms
  obtain ⟨_, hlt⟩ := FX.lt
  obtain ⟨_, hml⟩ := FX.ml
  obtain ⟨_, hal⟩ := FX.al
  have D_power_of : Dn P w K mg base CX0 1 "power_of" ["base", "many"] spPow := d_power_of FX.f_power_of FX.B
  have D_common_divisor : Dn P w K mg base CX0 1 "common_divisor" ["one", "other"] spGcd := d_common_divisor FX.f_common_divisor
  have D_floor_root : Dn P w K mg base CX0 2 "floor_root" ["value", "power"] spRoot := d_floor_root FX.f_floor_root D_power_of
  have D_is_power : Dn P w K mg base CX0 3 "is_power" ["value", "power"] spIsPow := d_is_power FX.f_is_power D_power_of D_floor_root
  have D_whole_root : Dn P w K mg base CX0 2 "whole_root" ["value", "power"] spWRoot := d_whole_root FX.f_whole_root D_power_of
  have D_base_and_exponent : Dn P w K mg base CX0 4 "base_and_exponent" ["top", "bottom"] spBE := d_base_and_exponent FX.f_base_and_exponent FX.B D_is_power D_whole_root
  have D_base_for : Dn P w K mg base CX0 5 "base_for" ["number"] spBaseFor := d_base_for FX.f_base_for FX.B D_base_and_exponent
  have D_lowest : Dn P w K mg base CX0 2 "lowest" ["top", "bottom"] spLowest := d_lowest FX.f_lowest FX.B D_common_divisor
  have D_raised : Dn P w K mg base CX0 2 "raised" ["number", "power"] spRaised := d_raised FX.f_raised D_power_of
  have D_root_for : Dn P w K mg base CX0 6 "root_for" ["number", "n"] spRoot4 := d_root_for FX.f_root_for D_base_for D_raised
  have D_four_for : Dn P w K mg base CX0 7 "four_for" ["number"] spFour := d_four_for FX.f_four_for D_lowest D_root_for
  have D_odd_part : Dn P w K mg base CX0 1 "odd_part" ["value"] spOdd := d_odd_part FX.f_odd_part
  have D_shared : Dn P w K mg base CX0 6 "shared" ["number", "n"] spShared := d_shared FX.f_shared D_common_divisor D_odd_part D_base_for
  have D_is_split_by_four : Dn P w K mg base CX0 8 "is_split_by_four" ["number", "n"] spS4 := d_is_split_by_four FX.f_is_split_by_four D_four_for
  have D_does_split : Dn P w K mg base CX0 9 "does_split" ["number", "n"] spSplit := d_does_split FX.f_does_split D_shared D_is_split_by_four
  have D_is_always : Dn P w K mg base CX0 8 "is_always" ["number"] spAlways := d_is_always FX.f_is_always D_base_for D_odd_part D_four_for
  have D_is_integer : Dn P w K mg base CX0 1 "is_integer" ["value"] spIsInt := d_is_integer FX.f_is_integer FX.B
  have D_is_between : Dn P w K mg base CX0 2 "is_between" ["value", "low", "high"] spBetween := d_is_between FX.f_is_between D_is_integer
  have D_is_number : Dn P w K mg base CX0 3 "is_number" ["value"] spIsNum := d_is_number FX.f_is_number FX.B hms D_is_between D_common_divisor
  have D_check_number : Dn P w K mg base CX0 4 "check_number" ["value"] spChk := d_check_number FX.f_check_number D_is_number
  have D_is_name : Dn P w K mg base CX0 1 "is_name" ["value"] spIsName := d_is_name FX.f_is_name FX.B hlt hml
  have D_prime_divisors : Dn P w K mg base CX0 1 "prime_divisors" ["value"] spPD := d_prime_divisors FX.f_prime_divisors
  have D_primes_for : Dn P w K mg base CX0 2 "primes_for" ["sign", "n"] spPF := d_primes_for FX.f_primes_for D_prime_divisors
  have D_own_kind : Dn P w K mg base CX0 8 "own_kind" ["number"] (spKind K) := d_own_kind FX.f_own_kind FX.B hal D_base_for D_primes_for D_four_for
  have D_kind_of : Dn P w K mg base CX0 9 "kind_of" ["number"] (spKind K) := d_kind_of FX.f_kind_of D_check_number D_own_kind
  have D_begins_with_word : Dn P w K mg base CX0 1 "begins_with_word" ["value"] spBegins := d_begins_with_word FX.f_begins_with_word FX.B
  have D_is_wish : Dn P w K mg base CX0 3 "is_wish" ["value"] spIsWish := d_is_wish FX.f_is_wish FX.B FX.TF hms D_begins_with_word D_is_between
  have D_is_deed : Dn P w K mg base CX0 2 "is_deed" ["value"] spIsDeed := d_is_deed FX.f_is_deed FX.B FX.TI D_begins_with_word
  have D_names_in : Dn P w K mg base CX0 1 "names_in" ["wish"] spNamesIn := d_names_in FX.f_names_in
  have D_holds : Dn P w K mg base CX0 10 "holds" ["wish", "numbers"] spHolds := d_holds FX.f_holds FX.B D_names_in D_is_always D_kind_of D_does_split
  have D_m_init : Mn P w K mg base CX0 1 C "__init__" ["self"] (spInit C) := d_init FX.f_init FX.BK
  have D_p_names : Pn P w K mg base 1 C "names" (spNames C) := d_names FX.f_names FX.B FX.BK
  have D_p_wishes : Pn P w K mg base 1 C "wishes" (spWishes C) := d_wishes FX.f_wishes FX.BK
  have D_p_changes : Pn P w K mg base 1 C "changes" (spChanges C) := d_changes FX.f_changes FX.B FX.BK
  have D_m_become : Mn P w K mg base CX0 1 C "become" ["self", "numbers", "made"] (spBecome C) := d_become FX.f_become FX.BK
  have D_m_len : Mn P w K mg base CX0 1 C "__len__" ["self"] (spLen C) := d_len FX.f_len FX.B FX.BK
  have D_m___contains__ : Mn P w K mg base CX0 1 C "__contains__" ["self", "name"] (spHas C) := d_has FX.f_has FX.B FX.BK
  have D_m_check_known : Mn P w K mg base (L2N.CX P w) 2 C "check_known" ["self", "name"] (spKnown C mg) := d_known FX.f_known FX.BK FX.EK D_m___contains__
  have D_m_get : Mn P w K mg base (L2N.CX P w) 3 C "__getitem__" ["self", "name"] (spGet C mg) := d_get FX.f_get FX.BK D_m_check_known
  have D_m___setitem__ : Mn P w K mg base (L2N.CX P w) 11 C "__setitem__" ["self", "name", "number"] (spSet C mg) := d_set FX.f_set FX.B FX.BK FX.EK D_is_name D_check_number D_holds D_m_become
  have D_m_wish : Mn P w K mg base (L2N.CX P w) 11 C "wish" ["self", "wish"] (spWish C mg) := d_wish FX.f_wish FX.B FX.BK FX.EK D_is_wish D_holds D_m_become
  have D_m_lift : Mn P w K mg base (L2N.CX P w) 3 C "lift" ["self", "index"] (spLift C mg) := d_lift FX.f_lift FX.B FX.BK FX.EK D_is_between D_m_become
  have D_m_drop : Mn P w K mg base (L2N.CX P w) 3 C "drop" ["self", "name"] (spDrop C mg) := d_drop FX.f_drop FX.B FX.BK FX.EK D_names_in D_m_check_known D_m_become
  have D_m_do : Mn P w K mg base (L2N.CX P w) 12 C "do" ["self", "deed"] (spDo C mg) := d_do FX.f_do FX.BK D_m___setitem__ D_m_wish D_m_lift D_m_drop
  have D_da : DAll P w K mg base 13 C (spDoAll (FRn P w K mg base) C mg) := d_do_all FX.f_do_all (fun _ _ h => h) FX.B FX.BK FX.EK D_is_deed D_m_do
  have D_l_looked : Dn P w K mg base (L2N.CX P w) 3 "_law_looked" ["_law_book_here", "_law_held", "_law_ends_at", "_law_seen_here"] (spLooked C) := d_l_looked FX.f_l_looked FX.B FX.BK D_p_changes D_p_names
  have D_l_all : Dn P w K mg base (L2N.CX P w) 14 "_law_all" ["_law_book_here", "_law_d", "_law_look"] (spAll (FRn P w K mg base) C mg) := d_l_all FX.f_l_all FX.B FX.BK D_da
  have D_l_called : Dn P w K mg base (L2N.CX P w) 15 "_law_called" ["_law_book_here", "_law_deeds", "_law_ends_at", "_law_seen_here"] (spCalled C mg [(P1, q_called), (P2, q_right)]) := d_l_called FX.f_l_called TB1 (by simp) (tabs_one1 ne) D_l_looked D_l_all
  have D_slip : SlipOk P w K mg base 1 := d_l_slip FX.f_l_slip FX.B FX.EK FX.SK
  have D_l_heard : Dn P w K mg base CX0 17 "_law_heard" ["_law_call_here"] (spHeard (FRh P w K mg base) mg) := d_l_heard FX.f_l_heard (fun _ _ h => h) FX.B FX.SK FX.HK D_slip
  have D_l_pull : Dn P w K mg base CX0 1 "_law_pull" ["_law_jug_here", "_law_top"] spPull := d_l_pull FX.f_l_pull FX.B
  have D_l_one_of : Dn P w K mg base CX0 2 "_law_one_of" ["_law_jug_here", "_law_some"] spOneOf := d_l_one_of FX.f_l_one_of FX.B D_l_pull
  have D_l_common : Dn P w K mg base CX0 1 "_law_common" ["_law_one", "_law_two"] spCommon := d_l_common FX.f_l_common FX.B
  have D_l_power : Dn P w K mg base CX0 2 "_law_power" ["_law_row"] spPower := d_l_power FX.f_l_power FX.B D_l_common
  have D_l_is_four : Dn P w K mg base CX0 1 "_law_is_four" ["_law_plan_here"] spLFour := d_l_is_four FX.f_l_is_four FX.B
  have D_l_splits : Dn P w K mg base CX0 3 "_law_splits" ["_law_plan_here", "_law_upto"] spLSplits := d_l_splits FX.f_l_splits FX.B D_l_common D_l_power D_l_is_four
  have D_l_is_always : Dn P w K mg base CX0 3 "_law_is_always" ["_law_plan_here"] spLAlways := d_l_is_always FX.f_l_is_always FX.B D_l_power D_l_is_four
  have D_l_kind : Dn P w K mg base CX0 3 "_law_kind" ["_law_plan_here"] (spLKind K) := d_l_kind FX.f_l_kind FX.B D_l_power D_l_is_four
  have D_l_answer : Dn P w K mg base CX0 4 "_law_answer" ["_law_shelf", "_law_due"] spAnswer := d_l_answer FX.f_l_answer FX.B D_l_is_always D_l_kind D_l_splits
  have D_l_broken : Dn P w K mg base CX0 5 "_law_broken" ["_law_shelf", "_law_wishes_here"] spBroken := d_l_broken FX.f_l_broken FX.B D_l_answer
  have D_l_pair : Dn P w K mg base CX0 1 "_law_pair" ["_law_sign", "_law_row"] spPair := d_l_pair FX.f_l_pair FX.B
  have D_l_small : Dn P w K mg base CX0 3 "_law_small" ["_law_jug_here", "_law_low", "_law_high"] spSmall := d_l_small FX.f_l_small FX.B D_l_pull D_l_one_of
  have D_l_plan : Dn P w K mg base CX0 4 "_law_plan" ["_law_jug_here"] spPlan := d_l_plan FX.f_l_plan FX.B D_l_pull D_l_one_of D_l_small
  have D_l_some_n : Dn P w K mg base CX0 3 "_law_some_n" ["_law_jug_here"] spSomeN := d_l_some_n FX.f_l_some_n FX.B D_l_pull D_l_one_of
  have D_l_new_wish : Dn P w K mg base CX0 4 "_law_new_wish" ["_law_jug_here", "_law_titles"] spNewWish := d_l_new_wish FX.f_l_new_wish FX.B D_l_one_of D_l_some_n
  have D_l_new_deed : Dn P w K mg base CX0 5 "_law_new_deed" ["_law_jug_here", "_law_page"] spNewDeed := d_l_new_deed FX.f_l_new_deed FX.B D_l_pull D_l_one_of D_l_new_wish D_l_plan
  have D_l_told_deed : Dn P w K mg base CX0 2 "_law_told_deed" ["_law_deed"] spTold := d_l_told_deed FX.f_l_told_deed FX.B D_l_pair
  have D_l_named : Dn P w K mg base CX0 1 "_law_named" ["_law_due"] spNamed := d_l_named FX.f_l_named FX.B
  have D_l_behind : Dn P w K mg base CX0 6 "_law_behind" ["_law_page", "_law_deed"] spBehind := d_l_behind FX.f_l_behind FX.B D_l_named D_l_broken
  have D_l_many : Dn P w K mg base CX0 7 "_law_many" ["_law_jug_here", "_law_page"] spMany := d_l_many FX.f_l_many FX.B D_l_pull D_l_new_deed D_l_behind D_l_told_deed
  have D_l_spoilt : Dn P w K mg base CX0 3 "_law_spoilt" ["_law_jug_here", "_law_deeds"] spSpoilt := d_l_spoilt FX.f_l_spoilt FX.B D_l_pull D_l_one_of
  have D_l_jug : Dn P w K mg base CX0 1 "_law_jug" ["_law_cells", "_law_k"] (spJug K) := d_l_jug FX.f_l_jug FX.B
  have D_m_undo : Mn P w K mg base CX0 1 C "undo" ["self"] (spUndo C) := d_undo FX.f_undo FX.B FX.BK
  have D_l_book_is : DnG P w K mg base (L2N.CX P w) 8 "_law_book_is" ["_law_book_here", "_law_page", "_law_many_here"] (spBookIs C) := d_l_book_is FX.f_l_book_is FX.B FX.BK FX.nb D_p_names D_p_wishes D_p_changes D_m_len D_m_get D_l_pair
  have D_l_right : DnG P w K mg base (L2N.CX P w) 18 "_law_right" ["_law_jug_here"] (spRight [(P1, q_called), (P2, q_right)]) := d_l_right FX.f_l_right TB2 (by simp) (tabs_one2 ne) FX.B FX.BK FX.MK D_m_init D_m_undo D_l_pull D_l_many D_l_spoilt D_l_all D_l_called D_l_heard D_l_book_is
  have D_law : DnG P w K mg base (L2N.CX P w) 19 "law" ["_law_cells"] (spLaw K [(P1, q_called), (P2, q_right)]) := d_law FX.f_law FX.B D_l_jug D_l_right
  exact D_law
/-- the law's promise, as the end asks for it -/
theorem law_G {l : PySem.W.OpenLaw} {w : World} {K : PySem.W.Frag} {mg : Str → Option Value} {fa : Addr} {h : Heap} {C c1 c2 P1 P2 : Addr} (FX : Facts K w mg C c1 c2) (hfa : mg "law" = some (.ref fa)) (ne : P1 ≠ P2)
    (h1 : h.get? P1 = some { cls := .none, data := .fields #[] } ∧ K.lookup P1 = none ∧ PySem.W.CodeHd h c1 P1) (h2 : h.get? P2 = some { cls := .none, data := .fields #[] } ∧ K.lookup P2 = none ∧ PySem.W.CodeHd h c2 P2) : LawG l w K (L2N.CX l.prog w) 19 63 "_law_cells" mg fa h := by
  refine ⟨[(c1, P1), (c2, P2)], spLaw K [(P1, q_called), (P2, q_right)], fun p hp => ?_, fun H a ns hl hT hS => ⟨a, ns, rfl, hS, fun p hp => ?_, by omega, fun _ => rfl⟩, fun base hK hn TB => ?_⟩
  · rcases List.mem_cons.mp hp with rfl | hp
    · exact h1
    · rw [List.mem_singleton.mp hp]
      exact h2
  · rcases List.mem_cons.mp hp with rfl | hp
    · exact TabS.nil (hT (c1, P1) List.mem_cons_self)
    · rw [List.mem_singleton.mp hp]
      exact TabS.nil (hT (c2, P2) (List.mem_cons_of_mem _ List.mem_cons_self))
  · obtain ⟨f, F, hm, _⟩ := (law_dn (P := l.prog) (base := base) FX (TB (c1, P1) List.mem_cons_self) (TB (c2, P2) (List.mem_cons_of_mem _ List.mem_cons_self)) ne).ex
    rw [hfa] at hm
    cases hm
    exact F
end Pp
-- G25
namespace Pp
open PySem PySem.Spec PyProof.Rows L2 LamX
/-! the head's facts, each out of what is asked of the written part -/
section
variable {K : PySem.W.Frag} {w : World} {h : Heap} {mg : Str → Option Value} {x qual : Str} {st : Stmt} {f C c g pr : Addr} {oc : Value} {od an : Option Addr} {kV doc pm cdv ct : Value} {osl : Array (Option Value)}
theorem at_mk (X : K.In h) (G : h.Ns mainGlobals mg) (a : PySem.W.nsIn K mainGlobals x = some (some (.ref f))) (l : K.lookup f = some ⟨oc, od, .func (PySem.W.fnOf x x (defArgs st) (defBody st) (defScope st) .none kV doc pm an cdv ct), osl⟩)
    (e : PySem.W.codeIn K cdv x = true) (k : PySem.W.keepIn K (.ref f) = true) : At K mg x st := ⟨f, _, fun_mk l e k, PySem.W.mg_of X G a⟩
theorem att_mk (X : K.In h) (G : h.Ns mainGlobals mg) (a : PySem.W.nsIn K mainGlobals x = some (some (.ref f))) (l : K.lookup f = some ⟨oc, od, .func (PySem.W.fnOf x x (defArgs st) (defBody st) (defScope st) .none kV doc pm an (.ref c) ct), osl⟩)
    (e : PySem.W.codeIn K (.ref c) x = true) (k : PySem.W.keepIn K (.ref f) = true) : AtT K mg x st c := ⟨f, _, _, _, _, _, _, _, _, l, e, k, PySem.W.mg_of X G a⟩
theorem atM_mk (a : PySem.W.findIn K (.ref C) x = some (some (.ref f))) (l : K.lookup f = some ⟨oc, od, .func (PySem.W.fnOf x qual (defArgs st) (defBody st) (defScope st) .none kV doc pm an cdv ct), osl⟩)
    (e : PySem.W.codeIn K cdv qual = true) (k : PySem.W.keepIn K (.ref f) = true) (i : PySem.W.isFn K (.ref f) = true) (n : PySem.W.fnIn K f = true) : AtM K C x qual st := ⟨f, _, fun_mk l e k, ⟨a, i, k⟩, n⟩
theorem atP_mk (a : PySem.W.findIn K (.ref C) x = some (some (.ref pr))) (s : PySem.W.specialIn K (.ref pr) "__get__" = some (some (.builtin "property.__get__"))) (t : PySem.W.takesIn K (.ref pr) = some true) {rest : List Value} (r : PySem.W.recIn K pr "property" = some (.ref g :: rest))
    (l : K.lookup g = some ⟨oc, od, .func (PySem.W.fnOf x qual (defArgs st) (defBody st) (defScope st) .none kV doc pm an cdv ct), osl⟩) (e : PySem.W.codeIn K cdv qual = true) (k : PySem.W.keepIn K (.ref g) = true) : AtP K C x qual st := ⟨pr, g, _, fun_mk l e k, ⟨a, s, t, _, r⟩⟩
theorem atD_mk {D : Addr} (a : PySem.W.findIn K (.ref C) x = some (some (.ref f))) (l : K.lookup f = some ⟨oc, od, .func (PySem.W.fnOf x qual (defArgs st) (defBody st) (defScope st) .none (.ref D) doc pm an cdv ct), osl⟩)
    (e : PySem.W.codeIn K cdv qual = true) (k : PySem.W.keepIn K (.ref f) = true) (i : PySem.W.isFn K (.ref f) = true) (n : PySem.W.nsIn K D "watch" = some (some .none)) : AtD K C x qual st [("watch", .non)] :=
  ⟨f, _, ⟨⟨oc, od, .none, .ref D, doc, pm, an, cdv, ct, osl, rfl, l, e, .inl ⟨rfl, rfl⟩, .inr ⟨D, rfl, fun q hq => by
    rw [List.mem_singleton.mp hq]
    exact ⟨_, n, rfl⟩⟩⟩, k⟩, ⟨a, i, k⟩⟩
theorem clsA_of {n : Str} {C : Addr} (e : mg n = some (.ref C)) : clsA mg n = C := by
  unfold clsA
  rw [e]
theorem tbl_mk {d : Addr} {es : Array DictEntry} {n : Nat} {l : List (Str × Int)} {no : List Str} (X : K.In h) (G : h.Ns mainGlobals mg) (a : PySem.W.nsIn K mainGlobals x = some (some (.ref d))) (q : K.lookup d = some ⟨.type "dict", none, .dict es n, #[]⟩) (lit : PySem.W.KeysLit w.params es.toList) (low : (d == sysModules) = false)
    (hl : ∀ p ∈ l, ∃ t, PySem.W.nsIn K d p.1 = some (some (.int p.2 t))) (hn : ∀ z ∈ no, PySem.W.nsIn K d z = some none) : Tbl K w mg x l no := ⟨d, es, n, PySem.W.mg_of X G a, ⟨q, lit, low⟩, hl, hn⟩

theorem blt_mk (X : K.In h) (G : h.Ns mainGlobals mg) (b_range : PySem.W.nsIn K mainGlobals "range" = some none) (b_len : PySem.W.nsIn K mainGlobals "len" = some none) (b_abs : PySem.W.nsIn K mainGlobals "abs" = some none) (b_int : PySem.W.nsIn K mainGlobals "int" = some none) (b_isinstance : PySem.W.nsIn K mainGlobals "isinstance" = some none) (b_str : PySem.W.nsIn K mainGlobals "str" = some none) (b_bool : PySem.W.nsIn K mainGlobals "bool" = some none) (b_tuple : PySem.W.nsIn K mainGlobals "tuple" = some none) (b_list : PySem.W.nsIn K mainGlobals "list" = some none) (b_dict : PySem.W.nsIn K mainGlobals "dict" = some none) (b_max : PySem.W.nsIn K mainGlobals "max" = some none) (b_min : PySem.W.nsIn K mainGlobals "min" = some none) (b_all : PySem.W.nsIn K mainGlobals "all" = some none) (b_zip : PySem.W.nsIn K mainGlobals "zip" = some none) (b_repr : PySem.W.nsIn K mainGlobals "repr" = some none) (b_sorted : PySem.W.nsIn K mainGlobals "sorted" = some none) (b_enumerate : PySem.W.nsIn K mainGlobals "enumerate" = some none) (b_valueError : PySem.W.nsIn K mainGlobals "ValueError" = some none) (b_lookupError : PySem.W.nsIn K mainGlobals "LookupError" = some none) (b_arithmeticError : PySem.W.nsIn K mainGlobals "ArithmeticError" = some none) (b_keyError : PySem.W.nsIn K mainGlobals "KeyError" = some none) : Blt mg :=
  ⟨PySem.W.mg_none_of X G b_range, PySem.W.mg_none_of X G b_len, PySem.W.mg_none_of X G b_abs, PySem.W.mg_none_of X G b_int, PySem.W.mg_none_of X G b_isinstance, PySem.W.mg_none_of X G b_str, PySem.W.mg_none_of X G b_bool, PySem.W.mg_none_of X G b_tuple, PySem.W.mg_none_of X G b_list, PySem.W.mg_none_of X G b_dict, PySem.W.mg_none_of X G b_max, PySem.W.mg_none_of X G b_min, PySem.W.mg_none_of X G b_all, PySem.W.mg_none_of X G b_zip, PySem.W.mg_none_of X G b_repr, PySem.W.mg_none_of X G b_sorted, PySem.W.mg_none_of X G b_enumerate, PySem.W.mg_none_of X G b_valueError, PySem.W.mg_none_of X G b_lookupError, PySem.W.mg_none_of X G b_arithmeticError, PySem.W.mg_none_of X G b_keyError⟩
theorem bk_mk (X : K.In h) (G : h.Ns mainGlobals mg) (a : PySem.W.nsIn K mainGlobals "Book" = some (some (.ref C))) (pg : PySem.W.plainGet K C Str.empty = true) (hd : PySem.W.hasDictIn K C = true) (po : PySem.W.plainOver K C = true) (sa : PySem.W.findIn K (.ref C) "__setattr__" = some (some (.builtin "object.__setattr__")))
    (nN : PySem.W.findIn K (.ref C) "numbers" = some none) (nM : PySem.W.findIn K (.ref C) "made" = some none) (nP : PySem.W.findIn K (.ref C) "past" = some none) (ns : PySem.W.noSeq K C = true) (mo : PySem.W.mroIn K C (.type "object") = some true) (eq : PySem.W.findIn K (.ref C) "__eq__" = some (some (.builtin "object.__eq__"))) : BkT K mg C :=
  ⟨PySem.W.mg_of X G a, ⟨pg, hd, po, sa⟩, nN, nM, nP, ns, mo, eq⟩
theorem ert_mk {fl : Str} {B newId initId : String} {bm : List Value} {p1 p2 q1 q2 q3 q4 : Pos} (X : K.In h) (G : h.Ns mainGlobals mg) (bs : Er.Bs B newId initId bm) (fld : fl = "given" ∨ fl = "index") (a : PySem.W.nsIn K mainGlobals x = some (some (.ref C))) (i : PySem.W.excInitIn K C bm newId = true) (ov : PySem.W.excOver K C bm = true)
    (sa : PySem.W.findIn K (.ref C) "__setattr__" = some (some (.builtin "object.__setattr__"))) (ga : PySem.W.findIn K (.ref C) "__getattribute__" = some (some (.builtin "BaseException.__getattribute__"))) (gg : PySem.W.findIn K (.ref C) "__getattr__" = some none) (nn : PySem.W.findIn K (.ref C) fl = some none)
    (iC : PySem.W.findIn K (.ref C) "__init__" = some (some (.ref f))) (tC : PySem.W.typeIn K (.ref f) = some (.type "function")) (kC : PySem.W.keepIn K (.ref C) = true) (exC : PySem.W.subIn K (.ref C) (.type "BaseException") = some true) (tyC : PySem.W.typeIn K (.ref C) = some (.type "type")) (hd : PySem.W.hasDictIn K C = true)
    (l : K.lookup f = some ⟨oc, od, .func (PySem.W.fnOf "__init__" qual (Er.eA fl p1 p2) (Er.eB fl q1 q2 q3 q4) (Er.eS fl) .none .none doc pm an cdv ct), osl⟩) (e : PySem.W.codeIn K cdv qual = true) : ∃ qual fI, Er.ErT K mg x fl qual (clsA mg x) fI := by
  have g := PySem.W.mg_of X G a
  rw [clsA_of g]
  exact ⟨qual, f, fld, g, ⟨_, _, _, _, bs, i, ov⟩, sa, ga, gg, nn, iC, tC, kC, exC, tyC, hd, _, _, _, _, _, _, _, _, _, _, _, _, _, _, l, e⟩
theorem slip_mk {c_WrongValue c_WrongName c_NoAnswer c_Broken c_InUse c_InvalidDeeds c_InvalidIndex c_InvalidName c_InvalidNumber c_InvalidWish c_NothingToUndo c_UnknownName : Addr} (X : K.In h) (G : h.Ns mainGlobals mg)
    (g_WrongValue : PySem.W.nsIn K mainGlobals "WrongValue" = some (some (.ref c_WrongValue)))
    (g_WrongName : PySem.W.nsIn K mainGlobals "WrongName" = some (some (.ref c_WrongName)))
    (g_NoAnswer : PySem.W.nsIn K mainGlobals "NoAnswer" = some (some (.ref c_NoAnswer)))
    (g_Broken : PySem.W.nsIn K mainGlobals "Broken" = some (some (.ref c_Broken)))
    (g_InUse : PySem.W.nsIn K mainGlobals "InUse" = some (some (.ref c_InUse)))
    (g_InvalidDeeds : PySem.W.nsIn K mainGlobals "InvalidDeeds" = some (some (.ref c_InvalidDeeds)))
    (g_InvalidIndex : PySem.W.nsIn K mainGlobals "InvalidIndex" = some (some (.ref c_InvalidIndex)))
    (g_InvalidName : PySem.W.nsIn K mainGlobals "InvalidName" = some (some (.ref c_InvalidName)))
    (g_InvalidNumber : PySem.W.nsIn K mainGlobals "InvalidNumber" = some (some (.ref c_InvalidNumber)))
    (g_InvalidWish : PySem.W.nsIn K mainGlobals "InvalidWish" = some (some (.ref c_InvalidWish)))
    (g_NothingToUndo : PySem.W.nsIn K mainGlobals "NothingToUndo" = some (some (.ref c_NothingToUndo)))
    (g_UnknownName : PySem.W.nsIn K mainGlobals "UnknownName" = some (some (.ref c_UnknownName)))
    (k_unknown_WrongValue : PySem.W.kitOne K (.ref c_UnknownName) (.ref c_WrongValue) = some false)
    (k_unknown_WrongName : PySem.W.kitOne K (.ref c_UnknownName) (.ref c_WrongName) = some true)
    (k_unknown_NoAnswer : PySem.W.kitOne K (.ref c_UnknownName) (.ref c_NoAnswer) = some false)
    (k_unknown_Broken : PySem.W.kitOne K (.ref c_UnknownName) (.ref c_Broken) = some false)
    (k_unknown_InUse : PySem.W.kitOne K (.ref c_UnknownName) (.ref c_InUse) = some false)
    (k_unknown_InvalidDeeds : PySem.W.kitOne K (.ref c_UnknownName) (.ref c_InvalidDeeds) = some false)
    (k_unknown_InvalidIndex : PySem.W.kitOne K (.ref c_UnknownName) (.ref c_InvalidIndex) = some false)
    (k_unknown_InvalidName : PySem.W.kitOne K (.ref c_UnknownName) (.ref c_InvalidName) = some false)
    (k_unknown_InvalidNumber : PySem.W.kitOne K (.ref c_UnknownName) (.ref c_InvalidNumber) = some false)
    (k_unknown_InvalidWish : PySem.W.kitOne K (.ref c_UnknownName) (.ref c_InvalidWish) = some false)
    (k_unknown_NothingToUndo : PySem.W.kitOne K (.ref c_UnknownName) (.ref c_NothingToUndo) = some false)
    (k_unknown_UnknownName : PySem.W.kitOne K (.ref c_UnknownName) (.ref c_UnknownName) = some true)
    (k_unknown_ValueError : PySem.W.kitOne K (.ref c_UnknownName) (.type "ValueError") = some false)
    (k_unknown_LookupError : PySem.W.kitOne K (.ref c_UnknownName) (.type "LookupError") = some true)
    (k_unknown_ArithmeticError : PySem.W.kitOne K (.ref c_UnknownName) (.type "ArithmeticError") = some false)
    (x_unknown : ExcC K c_UnknownName)
    (k_inUse_WrongValue : PySem.W.kitOne K (.ref c_InUse) (.ref c_WrongValue) = some false)
    (k_inUse_WrongName : PySem.W.kitOne K (.ref c_InUse) (.ref c_WrongName) = some false)
    (k_inUse_NoAnswer : PySem.W.kitOne K (.ref c_InUse) (.ref c_NoAnswer) = some true)
    (k_inUse_Broken : PySem.W.kitOne K (.ref c_InUse) (.ref c_Broken) = some false)
    (k_inUse_InUse : PySem.W.kitOne K (.ref c_InUse) (.ref c_InUse) = some true)
    (k_inUse_InvalidDeeds : PySem.W.kitOne K (.ref c_InUse) (.ref c_InvalidDeeds) = some false)
    (k_inUse_InvalidIndex : PySem.W.kitOne K (.ref c_InUse) (.ref c_InvalidIndex) = some false)
    (k_inUse_InvalidName : PySem.W.kitOne K (.ref c_InUse) (.ref c_InvalidName) = some false)
    (k_inUse_InvalidNumber : PySem.W.kitOne K (.ref c_InUse) (.ref c_InvalidNumber) = some false)
    (k_inUse_InvalidWish : PySem.W.kitOne K (.ref c_InUse) (.ref c_InvalidWish) = some false)
    (k_inUse_NothingToUndo : PySem.W.kitOne K (.ref c_InUse) (.ref c_NothingToUndo) = some false)
    (k_inUse_UnknownName : PySem.W.kitOne K (.ref c_InUse) (.ref c_UnknownName) = some false)
    (k_inUse_ValueError : PySem.W.kitOne K (.ref c_InUse) (.type "ValueError") = some false)
    (k_inUse_LookupError : PySem.W.kitOne K (.ref c_InUse) (.type "LookupError") = some false)
    (k_inUse_ArithmeticError : PySem.W.kitOne K (.ref c_InUse) (.type "ArithmeticError") = some true)
    (x_inUse : ExcC K c_InUse)
    (k_broken_WrongValue : PySem.W.kitOne K (.ref c_Broken) (.ref c_WrongValue) = some false)
    (k_broken_WrongName : PySem.W.kitOne K (.ref c_Broken) (.ref c_WrongName) = some false)
    (k_broken_NoAnswer : PySem.W.kitOne K (.ref c_Broken) (.ref c_NoAnswer) = some true)
    (k_broken_Broken : PySem.W.kitOne K (.ref c_Broken) (.ref c_Broken) = some true)
    (k_broken_InUse : PySem.W.kitOne K (.ref c_Broken) (.ref c_InUse) = some false)
    (k_broken_InvalidDeeds : PySem.W.kitOne K (.ref c_Broken) (.ref c_InvalidDeeds) = some false)
    (k_broken_InvalidIndex : PySem.W.kitOne K (.ref c_Broken) (.ref c_InvalidIndex) = some false)
    (k_broken_InvalidName : PySem.W.kitOne K (.ref c_Broken) (.ref c_InvalidName) = some false)
    (k_broken_InvalidNumber : PySem.W.kitOne K (.ref c_Broken) (.ref c_InvalidNumber) = some false)
    (k_broken_InvalidWish : PySem.W.kitOne K (.ref c_Broken) (.ref c_InvalidWish) = some false)
    (k_broken_NothingToUndo : PySem.W.kitOne K (.ref c_Broken) (.ref c_NothingToUndo) = some false)
    (k_broken_UnknownName : PySem.W.kitOne K (.ref c_Broken) (.ref c_UnknownName) = some false)
    (k_broken_ValueError : PySem.W.kitOne K (.ref c_Broken) (.type "ValueError") = some false)
    (k_broken_LookupError : PySem.W.kitOne K (.ref c_Broken) (.type "LookupError") = some false)
    (k_broken_ArithmeticError : PySem.W.kitOne K (.ref c_Broken) (.type "ArithmeticError") = some true)
    (x_broken : ExcC K c_Broken)
    (k_index_WrongValue : PySem.W.kitOne K (.ref c_InvalidIndex) (.ref c_WrongValue) = some true)
    (k_index_WrongName : PySem.W.kitOne K (.ref c_InvalidIndex) (.ref c_WrongName) = some false)
    (k_index_NoAnswer : PySem.W.kitOne K (.ref c_InvalidIndex) (.ref c_NoAnswer) = some false)
    (k_index_Broken : PySem.W.kitOne K (.ref c_InvalidIndex) (.ref c_Broken) = some false)
    (k_index_InUse : PySem.W.kitOne K (.ref c_InvalidIndex) (.ref c_InUse) = some false)
    (k_index_InvalidDeeds : PySem.W.kitOne K (.ref c_InvalidIndex) (.ref c_InvalidDeeds) = some false)
    (k_index_InvalidIndex : PySem.W.kitOne K (.ref c_InvalidIndex) (.ref c_InvalidIndex) = some true)
    (k_index_InvalidName : PySem.W.kitOne K (.ref c_InvalidIndex) (.ref c_InvalidName) = some false)
    (k_index_InvalidNumber : PySem.W.kitOne K (.ref c_InvalidIndex) (.ref c_InvalidNumber) = some false)
    (k_index_InvalidWish : PySem.W.kitOne K (.ref c_InvalidIndex) (.ref c_InvalidWish) = some false)
    (k_index_NothingToUndo : PySem.W.kitOne K (.ref c_InvalidIndex) (.ref c_NothingToUndo) = some false)
    (k_index_UnknownName : PySem.W.kitOne K (.ref c_InvalidIndex) (.ref c_UnknownName) = some false)
    (k_index_ValueError : PySem.W.kitOne K (.ref c_InvalidIndex) (.type "ValueError") = some true)
    (k_index_LookupError : PySem.W.kitOne K (.ref c_InvalidIndex) (.type "LookupError") = some false)
    (k_index_ArithmeticError : PySem.W.kitOne K (.ref c_InvalidIndex) (.type "ArithmeticError") = some false)
    (x_index : ExcC K c_InvalidIndex)
    (k_deeds_WrongValue : PySem.W.kitOne K (.ref c_InvalidDeeds) (.ref c_WrongValue) = some true)
    (k_deeds_WrongName : PySem.W.kitOne K (.ref c_InvalidDeeds) (.ref c_WrongName) = some false)
    (k_deeds_NoAnswer : PySem.W.kitOne K (.ref c_InvalidDeeds) (.ref c_NoAnswer) = some false)
    (k_deeds_Broken : PySem.W.kitOne K (.ref c_InvalidDeeds) (.ref c_Broken) = some false)
    (k_deeds_InUse : PySem.W.kitOne K (.ref c_InvalidDeeds) (.ref c_InUse) = some false)
    (k_deeds_InvalidDeeds : PySem.W.kitOne K (.ref c_InvalidDeeds) (.ref c_InvalidDeeds) = some true)
    (k_deeds_InvalidIndex : PySem.W.kitOne K (.ref c_InvalidDeeds) (.ref c_InvalidIndex) = some false)
    (k_deeds_InvalidName : PySem.W.kitOne K (.ref c_InvalidDeeds) (.ref c_InvalidName) = some false)
    (k_deeds_InvalidNumber : PySem.W.kitOne K (.ref c_InvalidDeeds) (.ref c_InvalidNumber) = some false)
    (k_deeds_InvalidWish : PySem.W.kitOne K (.ref c_InvalidDeeds) (.ref c_InvalidWish) = some false)
    (k_deeds_NothingToUndo : PySem.W.kitOne K (.ref c_InvalidDeeds) (.ref c_NothingToUndo) = some false)
    (k_deeds_UnknownName : PySem.W.kitOne K (.ref c_InvalidDeeds) (.ref c_UnknownName) = some false)
    (k_deeds_ValueError : PySem.W.kitOne K (.ref c_InvalidDeeds) (.type "ValueError") = some true)
    (k_deeds_LookupError : PySem.W.kitOne K (.ref c_InvalidDeeds) (.type "LookupError") = some false)
    (k_deeds_ArithmeticError : PySem.W.kitOne K (.ref c_InvalidDeeds) (.type "ArithmeticError") = some false)
    (x_deeds : ExcC K c_InvalidDeeds) : SlipK K mg := by
  have e_WrongValue : clsA mg "WrongValue" = c_WrongValue := clsA_of (PySem.W.mg_of X G g_WrongValue)
  have e_WrongName : clsA mg "WrongName" = c_WrongName := clsA_of (PySem.W.mg_of X G g_WrongName)
  have e_NoAnswer : clsA mg "NoAnswer" = c_NoAnswer := clsA_of (PySem.W.mg_of X G g_NoAnswer)
  have e_Broken : clsA mg "Broken" = c_Broken := clsA_of (PySem.W.mg_of X G g_Broken)
  have e_InUse : clsA mg "InUse" = c_InUse := clsA_of (PySem.W.mg_of X G g_InUse)
  have e_InvalidDeeds : clsA mg "InvalidDeeds" = c_InvalidDeeds := clsA_of (PySem.W.mg_of X G g_InvalidDeeds)
  have e_InvalidIndex : clsA mg "InvalidIndex" = c_InvalidIndex := clsA_of (PySem.W.mg_of X G g_InvalidIndex)
  have e_InvalidName : clsA mg "InvalidName" = c_InvalidName := clsA_of (PySem.W.mg_of X G g_InvalidName)
  have e_InvalidNumber : clsA mg "InvalidNumber" = c_InvalidNumber := clsA_of (PySem.W.mg_of X G g_InvalidNumber)
  have e_InvalidWish : clsA mg "InvalidWish" = c_InvalidWish := clsA_of (PySem.W.mg_of X G g_InvalidWish)
  have e_NothingToUndo : clsA mg "NothingToUndo" = c_NothingToUndo := clsA_of (PySem.W.mg_of X G g_NothingToUndo)
  have e_UnknownName : clsA mg "UnknownName" = c_UnknownName := clsA_of (PySem.W.mg_of X G g_UnknownName)
  refine ⟨fun c => ?_, fun e c => ?_, fun e => ?_, fun e => ?_, fun e => ?_, fun e => ?_⟩
  · cases c with
    | WrongValue => show mg "WrongValue" = some (.ref (clsA mg "WrongValue")); rw [e_WrongValue]; exact PySem.W.mg_of X G g_WrongValue
    | WrongName => show mg "WrongName" = some (.ref (clsA mg "WrongName")); rw [e_WrongName]; exact PySem.W.mg_of X G g_WrongName
    | NoAnswer => show mg "NoAnswer" = some (.ref (clsA mg "NoAnswer")); rw [e_NoAnswer]; exact PySem.W.mg_of X G g_NoAnswer
    | Broken => show mg "Broken" = some (.ref (clsA mg "Broken")); rw [e_Broken]; exact PySem.W.mg_of X G g_Broken
    | InUse => show mg "InUse" = some (.ref (clsA mg "InUse")); rw [e_InUse]; exact PySem.W.mg_of X G g_InUse
    | InvalidDeeds => show mg "InvalidDeeds" = some (.ref (clsA mg "InvalidDeeds")); rw [e_InvalidDeeds]; exact PySem.W.mg_of X G g_InvalidDeeds
    | InvalidIndex => show mg "InvalidIndex" = some (.ref (clsA mg "InvalidIndex")); rw [e_InvalidIndex]; exact PySem.W.mg_of X G g_InvalidIndex
    | InvalidName => show mg "InvalidName" = some (.ref (clsA mg "InvalidName")); rw [e_InvalidName]; exact PySem.W.mg_of X G g_InvalidName
    | InvalidNumber => show mg "InvalidNumber" = some (.ref (clsA mg "InvalidNumber")); rw [e_InvalidNumber]; exact PySem.W.mg_of X G g_InvalidNumber
    | InvalidWish => show mg "InvalidWish" = some (.ref (clsA mg "InvalidWish")); rw [e_InvalidWish]; exact PySem.W.mg_of X G g_InvalidWish
    | NothingToUndo => show mg "NothingToUndo" = some (.ref (clsA mg "NothingToUndo")); rw [e_NothingToUndo]; exact PySem.W.mg_of X G g_NothingToUndo
    | UnknownName => show mg "UnknownName" = some (.ref (clsA mg "UnknownName")); rw [e_UnknownName]; exact PySem.W.mg_of X G g_UnknownName
  · cases e with
    | unknown _ =>
      cases c with
      | WrongValue => show PySem.W.kitOne K (.ref (clsA mg "UnknownName")) (.ref (clsA mg "WrongValue")) = some false; rw [e_UnknownName, e_WrongValue]; exact k_unknown_WrongValue
      | WrongName => show PySem.W.kitOne K (.ref (clsA mg "UnknownName")) (.ref (clsA mg "WrongName")) = some true; rw [e_UnknownName, e_WrongName]; exact k_unknown_WrongName
      | NoAnswer => show PySem.W.kitOne K (.ref (clsA mg "UnknownName")) (.ref (clsA mg "NoAnswer")) = some false; rw [e_UnknownName, e_NoAnswer]; exact k_unknown_NoAnswer
      | Broken => show PySem.W.kitOne K (.ref (clsA mg "UnknownName")) (.ref (clsA mg "Broken")) = some false; rw [e_UnknownName, e_Broken]; exact k_unknown_Broken
      | InUse => show PySem.W.kitOne K (.ref (clsA mg "UnknownName")) (.ref (clsA mg "InUse")) = some false; rw [e_UnknownName, e_InUse]; exact k_unknown_InUse
      | InvalidDeeds => show PySem.W.kitOne K (.ref (clsA mg "UnknownName")) (.ref (clsA mg "InvalidDeeds")) = some false; rw [e_UnknownName, e_InvalidDeeds]; exact k_unknown_InvalidDeeds
      | InvalidIndex => show PySem.W.kitOne K (.ref (clsA mg "UnknownName")) (.ref (clsA mg "InvalidIndex")) = some false; rw [e_UnknownName, e_InvalidIndex]; exact k_unknown_InvalidIndex
      | InvalidName => show PySem.W.kitOne K (.ref (clsA mg "UnknownName")) (.ref (clsA mg "InvalidName")) = some false; rw [e_UnknownName, e_InvalidName]; exact k_unknown_InvalidName
      | InvalidNumber => show PySem.W.kitOne K (.ref (clsA mg "UnknownName")) (.ref (clsA mg "InvalidNumber")) = some false; rw [e_UnknownName, e_InvalidNumber]; exact k_unknown_InvalidNumber
      | InvalidWish => show PySem.W.kitOne K (.ref (clsA mg "UnknownName")) (.ref (clsA mg "InvalidWish")) = some false; rw [e_UnknownName, e_InvalidWish]; exact k_unknown_InvalidWish
      | NothingToUndo => show PySem.W.kitOne K (.ref (clsA mg "UnknownName")) (.ref (clsA mg "NothingToUndo")) = some false; rw [e_UnknownName, e_NothingToUndo]; exact k_unknown_NothingToUndo
      | UnknownName => show PySem.W.kitOne K (.ref (clsA mg "UnknownName")) (.ref (clsA mg "UnknownName")) = some true; rw [e_UnknownName]; exact k_unknown_UnknownName
    | inUse _ =>
      cases c with
      | WrongValue => show PySem.W.kitOne K (.ref (clsA mg "InUse")) (.ref (clsA mg "WrongValue")) = some false; rw [e_InUse, e_WrongValue]; exact k_inUse_WrongValue
      | WrongName => show PySem.W.kitOne K (.ref (clsA mg "InUse")) (.ref (clsA mg "WrongName")) = some false; rw [e_InUse, e_WrongName]; exact k_inUse_WrongName
      | NoAnswer => show PySem.W.kitOne K (.ref (clsA mg "InUse")) (.ref (clsA mg "NoAnswer")) = some true; rw [e_InUse, e_NoAnswer]; exact k_inUse_NoAnswer
      | Broken => show PySem.W.kitOne K (.ref (clsA mg "InUse")) (.ref (clsA mg "Broken")) = some false; rw [e_InUse, e_Broken]; exact k_inUse_Broken
      | InUse => show PySem.W.kitOne K (.ref (clsA mg "InUse")) (.ref (clsA mg "InUse")) = some true; rw [e_InUse]; exact k_inUse_InUse
      | InvalidDeeds => show PySem.W.kitOne K (.ref (clsA mg "InUse")) (.ref (clsA mg "InvalidDeeds")) = some false; rw [e_InUse, e_InvalidDeeds]; exact k_inUse_InvalidDeeds
      | InvalidIndex => show PySem.W.kitOne K (.ref (clsA mg "InUse")) (.ref (clsA mg "InvalidIndex")) = some false; rw [e_InUse, e_InvalidIndex]; exact k_inUse_InvalidIndex
      | InvalidName => show PySem.W.kitOne K (.ref (clsA mg "InUse")) (.ref (clsA mg "InvalidName")) = some false; rw [e_InUse, e_InvalidName]; exact k_inUse_InvalidName
      | InvalidNumber => show PySem.W.kitOne K (.ref (clsA mg "InUse")) (.ref (clsA mg "InvalidNumber")) = some false; rw [e_InUse, e_InvalidNumber]; exact k_inUse_InvalidNumber
      | InvalidWish => show PySem.W.kitOne K (.ref (clsA mg "InUse")) (.ref (clsA mg "InvalidWish")) = some false; rw [e_InUse, e_InvalidWish]; exact k_inUse_InvalidWish
      | NothingToUndo => show PySem.W.kitOne K (.ref (clsA mg "InUse")) (.ref (clsA mg "NothingToUndo")) = some false; rw [e_InUse, e_NothingToUndo]; exact k_inUse_NothingToUndo
      | UnknownName => show PySem.W.kitOne K (.ref (clsA mg "InUse")) (.ref (clsA mg "UnknownName")) = some false; rw [e_InUse, e_UnknownName]; exact k_inUse_UnknownName
    | broken _ =>
      cases c with
      | WrongValue => show PySem.W.kitOne K (.ref (clsA mg "Broken")) (.ref (clsA mg "WrongValue")) = some false; rw [e_Broken, e_WrongValue]; exact k_broken_WrongValue
      | WrongName => show PySem.W.kitOne K (.ref (clsA mg "Broken")) (.ref (clsA mg "WrongName")) = some false; rw [e_Broken, e_WrongName]; exact k_broken_WrongName
      | NoAnswer => show PySem.W.kitOne K (.ref (clsA mg "Broken")) (.ref (clsA mg "NoAnswer")) = some true; rw [e_Broken, e_NoAnswer]; exact k_broken_NoAnswer
      | Broken => show PySem.W.kitOne K (.ref (clsA mg "Broken")) (.ref (clsA mg "Broken")) = some true; rw [e_Broken]; exact k_broken_Broken
      | InUse => show PySem.W.kitOne K (.ref (clsA mg "Broken")) (.ref (clsA mg "InUse")) = some false; rw [e_Broken, e_InUse]; exact k_broken_InUse
      | InvalidDeeds => show PySem.W.kitOne K (.ref (clsA mg "Broken")) (.ref (clsA mg "InvalidDeeds")) = some false; rw [e_Broken, e_InvalidDeeds]; exact k_broken_InvalidDeeds
      | InvalidIndex => show PySem.W.kitOne K (.ref (clsA mg "Broken")) (.ref (clsA mg "InvalidIndex")) = some false; rw [e_Broken, e_InvalidIndex]; exact k_broken_InvalidIndex
      | InvalidName => show PySem.W.kitOne K (.ref (clsA mg "Broken")) (.ref (clsA mg "InvalidName")) = some false; rw [e_Broken, e_InvalidName]; exact k_broken_InvalidName
      | InvalidNumber => show PySem.W.kitOne K (.ref (clsA mg "Broken")) (.ref (clsA mg "InvalidNumber")) = some false; rw [e_Broken, e_InvalidNumber]; exact k_broken_InvalidNumber
      | InvalidWish => show PySem.W.kitOne K (.ref (clsA mg "Broken")) (.ref (clsA mg "InvalidWish")) = some false; rw [e_Broken, e_InvalidWish]; exact k_broken_InvalidWish
      | NothingToUndo => show PySem.W.kitOne K (.ref (clsA mg "Broken")) (.ref (clsA mg "NothingToUndo")) = some false; rw [e_Broken, e_NothingToUndo]; exact k_broken_NothingToUndo
      | UnknownName => show PySem.W.kitOne K (.ref (clsA mg "Broken")) (.ref (clsA mg "UnknownName")) = some false; rw [e_Broken, e_UnknownName]; exact k_broken_UnknownName
    | index _ =>
      cases c with
      | WrongValue => show PySem.W.kitOne K (.ref (clsA mg "InvalidIndex")) (.ref (clsA mg "WrongValue")) = some true; rw [e_InvalidIndex, e_WrongValue]; exact k_index_WrongValue
      | WrongName => show PySem.W.kitOne K (.ref (clsA mg "InvalidIndex")) (.ref (clsA mg "WrongName")) = some false; rw [e_InvalidIndex, e_WrongName]; exact k_index_WrongName
      | NoAnswer => show PySem.W.kitOne K (.ref (clsA mg "InvalidIndex")) (.ref (clsA mg "NoAnswer")) = some false; rw [e_InvalidIndex, e_NoAnswer]; exact k_index_NoAnswer
      | Broken => show PySem.W.kitOne K (.ref (clsA mg "InvalidIndex")) (.ref (clsA mg "Broken")) = some false; rw [e_InvalidIndex, e_Broken]; exact k_index_Broken
      | InUse => show PySem.W.kitOne K (.ref (clsA mg "InvalidIndex")) (.ref (clsA mg "InUse")) = some false; rw [e_InvalidIndex, e_InUse]; exact k_index_InUse
      | InvalidDeeds => show PySem.W.kitOne K (.ref (clsA mg "InvalidIndex")) (.ref (clsA mg "InvalidDeeds")) = some false; rw [e_InvalidIndex, e_InvalidDeeds]; exact k_index_InvalidDeeds
      | InvalidIndex => show PySem.W.kitOne K (.ref (clsA mg "InvalidIndex")) (.ref (clsA mg "InvalidIndex")) = some true; rw [e_InvalidIndex]; exact k_index_InvalidIndex
      | InvalidName => show PySem.W.kitOne K (.ref (clsA mg "InvalidIndex")) (.ref (clsA mg "InvalidName")) = some false; rw [e_InvalidIndex, e_InvalidName]; exact k_index_InvalidName
      | InvalidNumber => show PySem.W.kitOne K (.ref (clsA mg "InvalidIndex")) (.ref (clsA mg "InvalidNumber")) = some false; rw [e_InvalidIndex, e_InvalidNumber]; exact k_index_InvalidNumber
      | InvalidWish => show PySem.W.kitOne K (.ref (clsA mg "InvalidIndex")) (.ref (clsA mg "InvalidWish")) = some false; rw [e_InvalidIndex, e_InvalidWish]; exact k_index_InvalidWish
      | NothingToUndo => show PySem.W.kitOne K (.ref (clsA mg "InvalidIndex")) (.ref (clsA mg "NothingToUndo")) = some false; rw [e_InvalidIndex, e_NothingToUndo]; exact k_index_NothingToUndo
      | UnknownName => show PySem.W.kitOne K (.ref (clsA mg "InvalidIndex")) (.ref (clsA mg "UnknownName")) = some false; rw [e_InvalidIndex, e_UnknownName]; exact k_index_UnknownName
    | deeds _ =>
      cases c with
      | WrongValue => show PySem.W.kitOne K (.ref (clsA mg "InvalidDeeds")) (.ref (clsA mg "WrongValue")) = some true; rw [e_InvalidDeeds, e_WrongValue]; exact k_deeds_WrongValue
      | WrongName => show PySem.W.kitOne K (.ref (clsA mg "InvalidDeeds")) (.ref (clsA mg "WrongName")) = some false; rw [e_InvalidDeeds, e_WrongName]; exact k_deeds_WrongName
      | NoAnswer => show PySem.W.kitOne K (.ref (clsA mg "InvalidDeeds")) (.ref (clsA mg "NoAnswer")) = some false; rw [e_InvalidDeeds, e_NoAnswer]; exact k_deeds_NoAnswer
      | Broken => show PySem.W.kitOne K (.ref (clsA mg "InvalidDeeds")) (.ref (clsA mg "Broken")) = some false; rw [e_InvalidDeeds, e_Broken]; exact k_deeds_Broken
      | InUse => show PySem.W.kitOne K (.ref (clsA mg "InvalidDeeds")) (.ref (clsA mg "InUse")) = some false; rw [e_InvalidDeeds, e_InUse]; exact k_deeds_InUse
      | InvalidDeeds => show PySem.W.kitOne K (.ref (clsA mg "InvalidDeeds")) (.ref (clsA mg "InvalidDeeds")) = some true; rw [e_InvalidDeeds]; exact k_deeds_InvalidDeeds
      | InvalidIndex => show PySem.W.kitOne K (.ref (clsA mg "InvalidDeeds")) (.ref (clsA mg "InvalidIndex")) = some false; rw [e_InvalidDeeds, e_InvalidIndex]; exact k_deeds_InvalidIndex
      | InvalidName => show PySem.W.kitOne K (.ref (clsA mg "InvalidDeeds")) (.ref (clsA mg "InvalidName")) = some false; rw [e_InvalidDeeds, e_InvalidName]; exact k_deeds_InvalidName
      | InvalidNumber => show PySem.W.kitOne K (.ref (clsA mg "InvalidDeeds")) (.ref (clsA mg "InvalidNumber")) = some false; rw [e_InvalidDeeds, e_InvalidNumber]; exact k_deeds_InvalidNumber
      | InvalidWish => show PySem.W.kitOne K (.ref (clsA mg "InvalidDeeds")) (.ref (clsA mg "InvalidWish")) = some false; rw [e_InvalidDeeds, e_InvalidWish]; exact k_deeds_InvalidWish
      | NothingToUndo => show PySem.W.kitOne K (.ref (clsA mg "InvalidDeeds")) (.ref (clsA mg "NothingToUndo")) = some false; rw [e_InvalidDeeds, e_NothingToUndo]; exact k_deeds_NothingToUndo
      | UnknownName => show PySem.W.kitOne K (.ref (clsA mg "InvalidDeeds")) (.ref (clsA mg "UnknownName")) = some false; rw [e_InvalidDeeds, e_UnknownName]; exact k_deeds_UnknownName
  · cases e with
    | unknown _ => show PySem.W.kitOne K (.ref (clsA mg "UnknownName")) (.type "ValueError") = some false; rw [e_UnknownName]; exact k_unknown_ValueError
    | inUse _ => show PySem.W.kitOne K (.ref (clsA mg "InUse")) (.type "ValueError") = some false; rw [e_InUse]; exact k_inUse_ValueError
    | broken _ => show PySem.W.kitOne K (.ref (clsA mg "Broken")) (.type "ValueError") = some false; rw [e_Broken]; exact k_broken_ValueError
    | index _ => show PySem.W.kitOne K (.ref (clsA mg "InvalidIndex")) (.type "ValueError") = some true; rw [e_InvalidIndex]; exact k_index_ValueError
    | deeds _ => show PySem.W.kitOne K (.ref (clsA mg "InvalidDeeds")) (.type "ValueError") = some true; rw [e_InvalidDeeds]; exact k_deeds_ValueError
  · cases e with
    | unknown _ => show PySem.W.kitOne K (.ref (clsA mg "UnknownName")) (.type "LookupError") = some true; rw [e_UnknownName]; exact k_unknown_LookupError
    | inUse _ => show PySem.W.kitOne K (.ref (clsA mg "InUse")) (.type "LookupError") = some false; rw [e_InUse]; exact k_inUse_LookupError
    | broken _ => show PySem.W.kitOne K (.ref (clsA mg "Broken")) (.type "LookupError") = some false; rw [e_Broken]; exact k_broken_LookupError
    | index _ => show PySem.W.kitOne K (.ref (clsA mg "InvalidIndex")) (.type "LookupError") = some false; rw [e_InvalidIndex]; exact k_index_LookupError
    | deeds _ => show PySem.W.kitOne K (.ref (clsA mg "InvalidDeeds")) (.type "LookupError") = some false; rw [e_InvalidDeeds]; exact k_deeds_LookupError
  · cases e with
    | unknown _ => show PySem.W.kitOne K (.ref (clsA mg "UnknownName")) (.type "ArithmeticError") = some false; rw [e_UnknownName]; exact k_unknown_ArithmeticError
    | inUse _ => show PySem.W.kitOne K (.ref (clsA mg "InUse")) (.type "ArithmeticError") = some true; rw [e_InUse]; exact k_inUse_ArithmeticError
    | broken _ => show PySem.W.kitOne K (.ref (clsA mg "Broken")) (.type "ArithmeticError") = some true; rw [e_Broken]; exact k_broken_ArithmeticError
    | index _ => show PySem.W.kitOne K (.ref (clsA mg "InvalidIndex")) (.type "ArithmeticError") = some false; rw [e_InvalidIndex]; exact k_index_ArithmeticError
    | deeds _ => show PySem.W.kitOne K (.ref (clsA mg "InvalidDeeds")) (.type "ArithmeticError") = some false; rw [e_InvalidDeeds]; exact k_deeds_ArithmeticError
  · cases e with
    | unknown _ => show ExcC K (clsA mg "UnknownName"); rw [e_UnknownName]; exact x_unknown
    | inUse _ => show ExcC K (clsA mg "InUse"); rw [e_InUse]; exact x_inUse
    | broken _ => show ExcC K (clsA mg "Broken"); rw [e_Broken]; exact x_broken
    | index _ => show ExcC K (clsA mg "InvalidIndex"); rw [e_InvalidIndex]; exact x_index
    | deeds _ => show ExcC K (clsA mg "InvalidDeeds"); rw [e_InvalidDeeds]; exact x_deeds
theorem heard_mk {c_WrongValue c_WrongName c_NoAnswer c_UnknownName c_InUse c_Broken c_InvalidIndex c_InvalidDeeds : Addr} (X : K.In h) (G : h.Ns mainGlobals mg)
    (g_WrongValue : PySem.W.nsIn K mainGlobals "WrongValue" = some (some (.ref c_WrongValue)))
    (g_WrongName : PySem.W.nsIn K mainGlobals "WrongName" = some (some (.ref c_WrongName)))
    (g_NoAnswer : PySem.W.nsIn K mainGlobals "NoAnswer" = some (some (.ref c_NoAnswer)))
    (g_UnknownName : PySem.W.nsIn K mainGlobals "UnknownName" = some (some (.ref c_UnknownName)))
    (g_InUse : PySem.W.nsIn K mainGlobals "InUse" = some (some (.ref c_InUse)))
    (g_Broken : PySem.W.nsIn K mainGlobals "Broken" = some (some (.ref c_Broken)))
    (g_InvalidIndex : PySem.W.nsIn K mainGlobals "InvalidIndex" = some (some (.ref c_InvalidIndex)))
    (g_InvalidDeeds : PySem.W.nsIn K mainGlobals "InvalidDeeds" = some (some (.ref c_InvalidDeeds)))
    (h_unknown : PySem.W.exmAny K (.ref c_UnknownName) [.ref c_WrongValue, .ref c_WrongName, .ref c_NoAnswer] = some true)
    (h_inUse : PySem.W.exmAny K (.ref c_InUse) [.ref c_WrongValue, .ref c_WrongName, .ref c_NoAnswer] = some true)
    (h_broken : PySem.W.exmAny K (.ref c_Broken) [.ref c_WrongValue, .ref c_WrongName, .ref c_NoAnswer] = some true)
    (h_index : PySem.W.exmAny K (.ref c_InvalidIndex) [.ref c_WrongValue, .ref c_WrongName, .ref c_NoAnswer] = some true)
    (h_deeds : PySem.W.exmAny K (.ref c_InvalidDeeds) [.ref c_WrongValue, .ref c_WrongName, .ref c_NoAnswer] = some true)
    (h_key : PySem.W.exmAny K (.type "KeyError") [.ref c_WrongValue, .ref c_WrongName, .ref c_NoAnswer] = some false) : HeardK K mg := by
  have e_WrongValue : clsA mg "WrongValue" = c_WrongValue := clsA_of (PySem.W.mg_of X G g_WrongValue)
  have e_WrongName : clsA mg "WrongName" = c_WrongName := clsA_of (PySem.W.mg_of X G g_WrongName)
  have e_NoAnswer : clsA mg "NoAnswer" = c_NoAnswer := clsA_of (PySem.W.mg_of X G g_NoAnswer)
  have e_UnknownName : clsA mg "UnknownName" = c_UnknownName := clsA_of (PySem.W.mg_of X G g_UnknownName)
  have e_InUse : clsA mg "InUse" = c_InUse := clsA_of (PySem.W.mg_of X G g_InUse)
  have e_Broken : clsA mg "Broken" = c_Broken := clsA_of (PySem.W.mg_of X G g_Broken)
  have e_InvalidIndex : clsA mg "InvalidIndex" = c_InvalidIndex := clsA_of (PySem.W.mg_of X G g_InvalidIndex)
  have e_InvalidDeeds : clsA mg "InvalidDeeds" = c_InvalidDeeds := clsA_of (PySem.W.mg_of X G g_InvalidDeeds)
  refine ⟨fun e => ?_, ?_⟩
  · cases e with
    | unknown _ => show PySem.W.exmAny K (.ref (clsA mg "UnknownName")) [.ref (clsA mg "WrongValue"), .ref (clsA mg "WrongName"), .ref (clsA mg "NoAnswer")] = some true; rw [e_UnknownName, e_WrongValue, e_WrongName, e_NoAnswer]; exact h_unknown
    | inUse _ => show PySem.W.exmAny K (.ref (clsA mg "InUse")) [.ref (clsA mg "WrongValue"), .ref (clsA mg "WrongName"), .ref (clsA mg "NoAnswer")] = some true; rw [e_InUse, e_WrongValue, e_WrongName, e_NoAnswer]; exact h_inUse
    | broken _ => show PySem.W.exmAny K (.ref (clsA mg "Broken")) [.ref (clsA mg "WrongValue"), .ref (clsA mg "WrongName"), .ref (clsA mg "NoAnswer")] = some true; rw [e_Broken, e_WrongValue, e_WrongName, e_NoAnswer]; exact h_broken
    | index _ => show PySem.W.exmAny K (.ref (clsA mg "InvalidIndex")) [.ref (clsA mg "WrongValue"), .ref (clsA mg "WrongName"), .ref (clsA mg "NoAnswer")] = some true; rw [e_InvalidIndex, e_WrongValue, e_WrongName, e_NoAnswer]; exact h_index
    | deeds _ => show PySem.W.exmAny K (.ref (clsA mg "InvalidDeeds")) [.ref (clsA mg "WrongValue"), .ref (clsA mg "WrongName"), .ref (clsA mg "NoAnswer")] = some true; rw [e_InvalidDeeds, e_WrongValue, e_WrongName, e_NoAnswer]; exact h_deeds
  · rw [e_WrongValue, e_WrongName, e_NoAnswer]; exact h_key
theorem erk_mk (t_unknown : ∃ qual fI, Er.ErT K mg "UnknownName" "given" qual (clsA mg "UnknownName") fI) (t_inUse : ∃ qual fI, Er.ErT K mg "InUse" "index" qual (clsA mg "InUse") fI) (t_broken : ∃ qual fI, Er.ErT K mg "Broken" "index" qual (clsA mg "Broken") fI) (t_index : ∃ qual fI, Er.ErT K mg "InvalidIndex" "given" qual (clsA mg "InvalidIndex") fI) (t_deeds : ∃ qual fI, Er.ErT K mg "InvalidDeeds" "index" qual (clsA mg "InvalidDeeds") fI) : ErK K mg := ⟨fun e => match e with
  | .unknown _ => t_unknown
  | .inUse _ => t_inUse
  | .broken _ => t_broken
  | .index _ => t_index
  | .deeds _ => t_deeds⟩
/-- the two defs that make lambdas: their code objects and tables; the law's end -/
theorem fin_mk {l : PySem.W.OpenLaw} {fa f1 f2 c1 c2 P1 P2 : Addr} {oc1 oc2 kV1 kV2 dc1 dc2 pm1 pm2 ct1 ct2 : Value} {od1 od2 an1 an2 : Option Addr} {sl1 sl2 : Array (Option Value)} {o1 o2 : Option Addr} {vs1 vs2 : Array Value} {n1 n2 : Array (Option Value)} {ts : List Addr} (X : K.In h) (G : h.Ns mainGlobals mg) (ht : ∀ P ∈ ts, h.get? P = some (PySem.W.tabObj #[])) (hfa : mg "law" = some (.ref fa))
    (a : PySem.W.nsIn K mainGlobals "Book" = some (some (.ref C))) (g1 : PySem.W.nsIn K mainGlobals "_law_called" = some (some (.ref f1))) (g2 : PySem.W.nsIn K mainGlobals "_law_right" = some (some (.ref f2)))
    (l1 : K.lookup f1 = some ⟨oc1, od1, .func (PySem.W.fnOf "_law_called" "_law_called" (defArgs s_l_called) (defBody s_l_called) (defScope s_l_called) .none kV1 dc1 pm1 an1 (.ref c1) ct1), sl1⟩) (l2 : K.lookup f2 = some ⟨oc2, od2, .func (PySem.W.fnOf "_law_right" "_law_right" (defArgs s_l_right) (defBody s_l_right) (defScope s_l_right) .none kV2 dc2 pm2 an2 (.ref c2) ct2), sl2⟩)
    (t1 : K.lookup c1 = some ⟨.type "code", o1, .fields vs1, n1⟩) (t2 : K.lookup c2 = some ⟨.type "code", o2, .fields vs2, n2⟩) (p1 : vs1[11]? = some (.ref P1)) (p2 : vs2[11]? = some (.ref P2)) (d1 : PySem.W.codeHdIn K c1 P1 = true) (d2 : PySem.W.codeHdIn K c2 P2 = true)
    (m1 : P1 ∈ ts) (m2 : P2 ∈ ts) (e1 : K.lookup P1 = none) (e2 : K.lookup P2 = none) (ne : P1 ≠ P2) (FX : Facts K w mg C c1 c2) : LawG l w K (L2N.CX l.prog w) 19 63 "_law_cells" mg fa h :=
  law_G FX hfa ne ⟨ht P1 m1, e1, PySem.W.codeHd_of_K X d1⟩ ⟨ht P2 m2, e2, PySem.W.codeHd_of_K X d2⟩
end
end Pp
open PySem PySem.W PyProof.Rows
set_option maxRecDepth 100000 in
set_option maxHeartbeats 0 in
theorem PySem.Challenge.cw_purepowers_k64_whole_deeds_together_holds : PySem.Challenge.rw_purepowers_k64_whole_deeds_together.Holds := by
  refine head ?_
  k_fill
  refine Pp.walk_G (l := PySem.Challenge.rw_purepowers_k64_whole_deeds_together) (n := 63) (k := 19) (x := "_law_cells") (CX := fun w => L2N.CX (PySem.W.OpenLaw.prog PySem.Challenge.rw_purepowers_k64_whole_deeds_together) w) rfl (by decide) rfl ⟨rfl, by decide, by decide⟩ (fun w h Y => PySem.W.km_in_of Y) ?F ?C
  case C =>
    rintro w H s e s' ⟨_, _, _, _, _, _, _, _, _, _, _, _, h⟩
    exact h
  case F =>
    intro w mg fa h Y KX G hmg
    refine' Pp.fin_mk KX G (PySem.W.km_tabs_of Y) hmg ?a ?g1 ?g2 ?l1 ?l2 ?t1 ?t2 ?p1 ?p2 ?d1 ?d2 ?m1 ?m2 ?e1 ?e2 ?ne ?FX
    (case a => k_is); (case g1 => k_is); (case g2 => k_is); (case l1 => k_is); (case l2 => k_is); (case t1 => k_is); (case t2 => k_is)
    (case p1 => rfl); (case p2 => rfl); (case d1 => kernel_rfl); (case d2 => kernel_rfl)
    (case m1 => decide); (case m2 => decide); (case e1 => kernel_rfl); (case e2 => kernel_rfl); (case ne => decide)
    case FX =>
      constructor
      case B =>
        refine' Pp.blt_mk KX G ?h0 ?h1 ?h2 ?h3 ?h4 ?h5 ?h6 ?h7 ?h8 ?h9 ?h10 ?h11 ?h12 ?h13 ?h14 ?h15 ?h16 ?h17 ?h18 ?h19 ?h20
        (case h0 => k_is); (case h1 => k_is); (case h2 => k_is); (case h3 => k_is); (case h4 => k_is); (case h5 => k_is); (case h6 => k_is); (case h7 => k_is); (case h8 => k_is); (case h9 => k_is); (case h10 => k_is); (case h11 => k_is); (case h12 => k_is); (case h13 => k_is); (case h14 => k_is); (case h15 => k_is); (case h16 => k_is); (case h17 => k_is); (case h18 => k_is); (case h19 => k_is); (case h20 => k_is)
      case BK =>
        refine' Pp.bk_mk KX G ?h0 ?h1 ?h2 ?h3 ?h4 ?h5 ?h6 ?h7 ?h8 ?h9 ?h10
        (case h0 => k_is); (case h1 => k_is); (case h2 => k_is); (case h3 => k_is); (case h4 => k_is); (case h5 => k_is); (case h6 => k_is); (case h7 => k_is); (case h8 => k_is); (case h9 => k_is); (case h10 => k_is)
      case MK => constructor <;> k_is
      case nb => k_is
      case EK =>
        refine' Pp.erk_mk ?t1 ?t2 ?t3 ?t4 ?t5
        (case t1 => (refine' Pp.ert_mk KX G Pp.bs_LE (.inl rfl) ?a ?i ?ov ?sa ?ga ?gg ?nn ?iC ?tC ?kC ?exC ?tyC ?hd ?l ?e; (case a => k_is); (case i => kernel_rfl); (case ov => kernel_rfl); (case sa => k_is); (case ga => k_is); (case gg => k_is); (case nn => k_is); (case iC => k_is); (case tC => k_is); (case kC => k_is); (case exC => k_is); (case tyC => k_is); (case hd => k_is); (case l => k_is); (case e => k_is)))
        (case t2 => (refine' Pp.ert_mk KX G Pp.bs_AE (.inr rfl) ?a ?i ?ov ?sa ?ga ?gg ?nn ?iC ?tC ?kC ?exC ?tyC ?hd ?l ?e; (case a => k_is); (case i => kernel_rfl); (case ov => kernel_rfl); (case sa => k_is); (case ga => k_is); (case gg => k_is); (case nn => k_is); (case iC => k_is); (case tC => k_is); (case kC => k_is); (case exC => k_is); (case tyC => k_is); (case hd => k_is); (case l => k_is); (case e => k_is)))
        (case t3 => (refine' Pp.ert_mk KX G Pp.bs_AE (.inr rfl) ?a ?i ?ov ?sa ?ga ?gg ?nn ?iC ?tC ?kC ?exC ?tyC ?hd ?l ?e; (case a => k_is); (case i => kernel_rfl); (case ov => kernel_rfl); (case sa => k_is); (case ga => k_is); (case gg => k_is); (case nn => k_is); (case iC => k_is); (case tC => k_is); (case kC => k_is); (case exC => k_is); (case tyC => k_is); (case hd => k_is); (case l => k_is); (case e => k_is)))
        (case t4 => (refine' Pp.ert_mk KX G Pp.bs_VE (.inl rfl) ?a ?i ?ov ?sa ?ga ?gg ?nn ?iC ?tC ?kC ?exC ?tyC ?hd ?l ?e; (case a => k_is); (case i => kernel_rfl); (case ov => kernel_rfl); (case sa => k_is); (case ga => k_is); (case gg => k_is); (case nn => k_is); (case iC => k_is); (case tC => k_is); (case kC => k_is); (case exC => k_is); (case tyC => k_is); (case hd => k_is); (case l => k_is); (case e => k_is)))
        (case t5 => (refine' Pp.ert_mk KX G Pp.bs_VE (.inr rfl) ?a ?i ?ov ?sa ?ga ?gg ?nn ?iC ?tC ?kC ?exC ?tyC ?hd ?l ?e; (case a => k_is); (case i => kernel_rfl); (case ov => kernel_rfl); (case sa => k_is); (case ga => k_is); (case gg => k_is); (case nn => k_is); (case iC => k_is); (case tC => k_is); (case kC => k_is); (case exC => k_is); (case tyC => k_is); (case hd => k_is); (case l => k_is); (case e => k_is)))
      case SK =>
        refine' Pp.slip_mk KX G ?h0 ?h1 ?h2 ?h3 ?h4 ?h5 ?h6 ?h7 ?h8 ?h9 ?h10 ?h11 ?h12 ?h13 ?h14 ?h15 ?h16 ?h17 ?h18 ?h19 ?h20 ?h21 ?h22 ?h23 ?h24 ?h25 ?h26 ?h27 ?h28 ?h29 ?h30 ?h31 ?h32 ?h33 ?h34 ?h35 ?h36 ?h37 ?h38 ?h39 ?h40 ?h41 ?h42 ?h43 ?h44 ?h45 ?h46 ?h47 ?h48 ?h49 ?h50 ?h51 ?h52 ?h53 ?h54 ?h55 ?h56 ?h57 ?h58 ?h59 ?h60 ?h61 ?h62 ?h63 ?h64 ?h65 ?h66 ?h67 ?h68 ?h69 ?h70 ?h71 ?h72 ?h73 ?h74 ?h75 ?h76 ?h77 ?h78 ?h79 ?h80 ?h81 ?h82 ?h83 ?h84 ?h85 ?h86 ?h87 ?h88 ?h89 ?h90 ?h91
        (case h0 => k_is); (case h1 => k_is); (case h2 => k_is); (case h3 => k_is); (case h4 => k_is); (case h5 => k_is); (case h6 => k_is); (case h7 => k_is); (case h8 => k_is); (case h9 => k_is); (case h10 => k_is); (case h11 => k_is); (case h12 => kernel_rfl); (case h13 => kernel_rfl); (case h14 => kernel_rfl); (case h15 => kernel_rfl); (case h16 => kernel_rfl); (case h17 => kernel_rfl); (case h18 => kernel_rfl); (case h19 => kernel_rfl); (case h20 => kernel_rfl); (case h21 => kernel_rfl); (case h22 => kernel_rfl); (case h23 => kernel_rfl); (case h24 => kernel_rfl); (case h25 => kernel_rfl); (case h26 => kernel_rfl); (case h27 => constructor <;> k_is); (case h28 => kernel_rfl); (case h29 => kernel_rfl); (case h30 => kernel_rfl); (case h31 => kernel_rfl); (case h32 => kernel_rfl); (case h33 => kernel_rfl); (case h34 => kernel_rfl); (case h35 => kernel_rfl); (case h36 => kernel_rfl); (case h37 => kernel_rfl); (case h38 => kernel_rfl); (case h39 => kernel_rfl); (case h40 => kernel_rfl); (case h41 => kernel_rfl); (case h42 => kernel_rfl); (case h43 => constructor <;> k_is); (case h44 => kernel_rfl); (case h45 => kernel_rfl); (case h46 => kernel_rfl); (case h47 => kernel_rfl); (case h48 => kernel_rfl); (case h49 => kernel_rfl); (case h50 => kernel_rfl); (case h51 => kernel_rfl); (case h52 => kernel_rfl); (case h53 => kernel_rfl); (case h54 => kernel_rfl); (case h55 => kernel_rfl); (case h56 => kernel_rfl); (case h57 => kernel_rfl); (case h58 => kernel_rfl); (case h59 => constructor <;> k_is); (case h60 => kernel_rfl); (case h61 => kernel_rfl); (case h62 => kernel_rfl); (case h63 => kernel_rfl); (case h64 => kernel_rfl); (case h65 => kernel_rfl); (case h66 => kernel_rfl); (case h67 => kernel_rfl); (case h68 => kernel_rfl); (case h69 => kernel_rfl); (case h70 => kernel_rfl); (case h71 => kernel_rfl); (case h72 => kernel_rfl); (case h73 => kernel_rfl); (case h74 => kernel_rfl); (case h75 => constructor <;> k_is); (case h76 => kernel_rfl); (case h77 => kernel_rfl); (case h78 => kernel_rfl); (case h79 => kernel_rfl); (case h80 => kernel_rfl); (case h81 => kernel_rfl); (case h82 => kernel_rfl); (case h83 => kernel_rfl); (case h84 => kernel_rfl); (case h85 => kernel_rfl); (case h86 => kernel_rfl); (case h87 => kernel_rfl); (case h88 => kernel_rfl); (case h89 => kernel_rfl); (case h90 => kernel_rfl); (case h91 => constructor <;> k_is)
      case HK =>
        refine' Pp.heard_mk KX G ?h0 ?h1 ?h2 ?h3 ?h4 ?h5 ?h6 ?h7 ?h8 ?h9 ?h10 ?h11 ?h12 ?h13
        (case h0 => k_is); (case h1 => k_is); (case h2 => k_is); (case h3 => k_is); (case h4 => k_is); (case h5 => k_is); (case h6 => k_is); (case h7 => k_is); (case h8 => kernel_rfl); (case h9 => kernel_rfl); (case h10 => kernel_rfl); (case h11 => kernel_rfl); (case h12 => kernel_rfl); (case h13 => kernel_rfl)
      case TF =>
        refine' Pp.tbl_mk KX G ?a ?q ?lit ?low ?yhl ?yhn
        (case a => k_is); (case q => k_is); (case lit => k_keys); (case low => decide)
        (case yhl => (intro p hp; simp only [Pp.formsL, Pp.itemsL, List.mem_cons, List.not_mem_nil, or_false] at hp; rcases hp with rfl | rfl | rfl | rfl <;> exact ⟨_, by k_is⟩))
        (case yhn => (intro z hz; first | exact absurd hz List.not_mem_nil | (rw [List.mem_singleton.mp hz]; k_is)))
      case TI =>
        refine' Pp.tbl_mk KX G ?a ?q ?lit ?low ?yhl ?yhn
        (case a => k_is); (case q => k_is); (case lit => k_keys); (case low => decide)
        (case yhl => (intro p hp; simp only [Pp.formsL, Pp.itemsL, List.mem_cons, List.not_mem_nil, or_false] at hp; rcases hp with rfl | rfl | rfl | rfl <;> exact ⟨_, by k_is⟩))
        (case yhn => (intro z hz; first | exact absurd hz List.not_mem_nil | (rw [List.mem_singleton.mp hz]; k_is)))
      case ms => exact ⟨_, PySem.W.mg_of KX G (by k_is)⟩
      case lt => exact ⟨_, PySem.W.mg_of KX G (by k_is)⟩
      case ml => exact ⟨_, PySem.W.mg_of KX G (by k_is)⟩
      case al => exact ⟨_, PySem.W.mg_of KX G (by k_is)⟩
      case f_power_of => (refine' Pp.at_mk KX G ?a ?l ?e ?k; (case a => k_is); (case l => k_is); (case e => k_is); (case k => k_is))
      case f_common_divisor => (refine' Pp.at_mk KX G ?a ?l ?e ?k; (case a => k_is); (case l => k_is); (case e => k_is); (case k => k_is))
      case f_floor_root => (refine' Pp.at_mk KX G ?a ?l ?e ?k; (case a => k_is); (case l => k_is); (case e => k_is); (case k => k_is))
      case f_is_power => (refine' Pp.at_mk KX G ?a ?l ?e ?k; (case a => k_is); (case l => k_is); (case e => k_is); (case k => k_is))
      case f_whole_root => (refine' Pp.at_mk KX G ?a ?l ?e ?k; (case a => k_is); (case l => k_is); (case e => k_is); (case k => k_is))
      case f_base_and_exponent => (refine' Pp.at_mk KX G ?a ?l ?e ?k; (case a => k_is); (case l => k_is); (case e => k_is); (case k => k_is))
      case f_base_for => (refine' Pp.at_mk KX G ?a ?l ?e ?k; (case a => k_is); (case l => k_is); (case e => k_is); (case k => k_is))
      case f_lowest => (refine' Pp.at_mk KX G ?a ?l ?e ?k; (case a => k_is); (case l => k_is); (case e => k_is); (case k => k_is))
      case f_raised => (refine' Pp.at_mk KX G ?a ?l ?e ?k; (case a => k_is); (case l => k_is); (case e => k_is); (case k => k_is))
      case f_root_for => (refine' Pp.at_mk KX G ?a ?l ?e ?k; (case a => k_is); (case l => k_is); (case e => k_is); (case k => k_is))
      case f_four_for => (refine' Pp.at_mk KX G ?a ?l ?e ?k; (case a => k_is); (case l => k_is); (case e => k_is); (case k => k_is))
      case f_odd_part => (refine' Pp.at_mk KX G ?a ?l ?e ?k; (case a => k_is); (case l => k_is); (case e => k_is); (case k => k_is))
      case f_shared => (refine' Pp.at_mk KX G ?a ?l ?e ?k; (case a => k_is); (case l => k_is); (case e => k_is); (case k => k_is))
      case f_is_split_by_four => (refine' Pp.at_mk KX G ?a ?l ?e ?k; (case a => k_is); (case l => k_is); (case e => k_is); (case k => k_is))
      case f_does_split => (refine' Pp.at_mk KX G ?a ?l ?e ?k; (case a => k_is); (case l => k_is); (case e => k_is); (case k => k_is))
      case f_is_always => (refine' Pp.at_mk KX G ?a ?l ?e ?k; (case a => k_is); (case l => k_is); (case e => k_is); (case k => k_is))
      case f_is_integer => (refine' Pp.at_mk KX G ?a ?l ?e ?k; (case a => k_is); (case l => k_is); (case e => k_is); (case k => k_is))
      case f_is_between => (refine' Pp.at_mk KX G ?a ?l ?e ?k; (case a => k_is); (case l => k_is); (case e => k_is); (case k => k_is))
      case f_is_number => (refine' Pp.at_mk KX G ?a ?l ?e ?k; (case a => k_is); (case l => k_is); (case e => k_is); (case k => k_is))
      case f_check_number => (refine' Pp.at_mk KX G ?a ?l ?e ?k; (case a => k_is); (case l => k_is); (case e => k_is); (case k => k_is))
      case f_is_name => (refine' Pp.at_mk KX G ?a ?l ?e ?k; (case a => k_is); (case l => k_is); (case e => k_is); (case k => k_is))
      case f_prime_divisors => (refine' Pp.at_mk KX G ?a ?l ?e ?k; (case a => k_is); (case l => k_is); (case e => k_is); (case k => k_is))
      case f_primes_for => (refine' Pp.at_mk KX G ?a ?l ?e ?k; (case a => k_is); (case l => k_is); (case e => k_is); (case k => k_is))
      case f_own_kind => (refine' Pp.at_mk KX G ?a ?l ?e ?k; (case a => k_is); (case l => k_is); (case e => k_is); (case k => k_is))
      case f_kind_of => (refine' Pp.at_mk KX G ?a ?l ?e ?k; (case a => k_is); (case l => k_is); (case e => k_is); (case k => k_is))
      case f_begins_with_word => (refine' Pp.at_mk KX G ?a ?l ?e ?k; (case a => k_is); (case l => k_is); (case e => k_is); (case k => k_is))
      case f_is_wish => (refine' Pp.at_mk KX G ?a ?l ?e ?k; (case a => k_is); (case l => k_is); (case e => k_is); (case k => k_is))
      case f_is_deed => (refine' Pp.at_mk KX G ?a ?l ?e ?k; (case a => k_is); (case l => k_is); (case e => k_is); (case k => k_is))
      case f_names_in => (refine' Pp.at_mk KX G ?a ?l ?e ?k; (case a => k_is); (case l => k_is); (case e => k_is); (case k => k_is))
      case f_holds => (refine' Pp.at_mk KX G ?a ?l ?e ?k; (case a => k_is); (case l => k_is); (case e => k_is); (case k => k_is))
      case f_init => (refine' Pp.atM_mk ?a ?l ?e ?k ?i ?n; (case a => k_is); (case l => k_is); (case e => k_is); (case k => k_is); (case i => k_is); (case n => k_is))
      case f_names => (refine' Pp.atP_mk ?a ?s ?t ?r ?l ?e ?k; (case a => k_is); (case s => k_is); (case t => k_is); (case r => k_is); (case l => k_is); (case e => k_is); (case k => k_is))
      case f_wishes => (refine' Pp.atP_mk ?a ?s ?t ?r ?l ?e ?k; (case a => k_is); (case s => k_is); (case t => k_is); (case r => k_is); (case l => k_is); (case e => k_is); (case k => k_is))
      case f_changes => (refine' Pp.atP_mk ?a ?s ?t ?r ?l ?e ?k; (case a => k_is); (case s => k_is); (case t => k_is); (case r => k_is); (case l => k_is); (case e => k_is); (case k => k_is))
      case f_become => (refine' Pp.atM_mk ?a ?l ?e ?k ?i ?n; (case a => k_is); (case l => k_is); (case e => k_is); (case k => k_is); (case i => k_is); (case n => k_is))
      case f_len => (refine' Pp.atM_mk ?a ?l ?e ?k ?i ?n; (case a => k_is); (case l => k_is); (case e => k_is); (case k => k_is); (case i => k_is); (case n => k_is))
      case f_has => (refine' Pp.atM_mk ?a ?l ?e ?k ?i ?n; (case a => k_is); (case l => k_is); (case e => k_is); (case k => k_is); (case i => k_is); (case n => k_is))
      case f_known => (refine' Pp.atM_mk ?a ?l ?e ?k ?i ?n; (case a => k_is); (case l => k_is); (case e => k_is); (case k => k_is); (case i => k_is); (case n => k_is))
      case f_get => (refine' Pp.atM_mk ?a ?l ?e ?k ?i ?n; (case a => k_is); (case l => k_is); (case e => k_is); (case k => k_is); (case i => k_is); (case n => k_is))
      case f_set => (refine' Pp.atM_mk ?a ?l ?e ?k ?i ?n; (case a => k_is); (case l => k_is); (case e => k_is); (case k => k_is); (case i => k_is); (case n => k_is))
      case f_wish => (refine' Pp.atM_mk ?a ?l ?e ?k ?i ?n; (case a => k_is); (case l => k_is); (case e => k_is); (case k => k_is); (case i => k_is); (case n => k_is))
      case f_lift => (refine' Pp.atM_mk ?a ?l ?e ?k ?i ?n; (case a => k_is); (case l => k_is); (case e => k_is); (case k => k_is); (case i => k_is); (case n => k_is))
      case f_drop => (refine' Pp.atM_mk ?a ?l ?e ?k ?i ?n; (case a => k_is); (case l => k_is); (case e => k_is); (case k => k_is); (case i => k_is); (case n => k_is))
      case f_do => (refine' Pp.atM_mk ?a ?l ?e ?k ?i ?n; (case a => k_is); (case l => k_is); (case e => k_is); (case k => k_is); (case i => k_is); (case n => k_is))
      case f_do_all => (refine' Pp.atD_mk ?a ?l ?e ?k ?i ?n; (case a => k_is); (case l => k_is); (case e => k_is); (case k => k_is); (case i => k_is); (case n => k_is))
      case f_l_looked => (refine' Pp.at_mk KX G ?a ?l ?e ?k; (case a => k_is); (case l => k_is); (case e => k_is); (case k => k_is))
      case f_l_all => (refine' Pp.at_mk KX G ?a ?l ?e ?k; (case a => k_is); (case l => k_is); (case e => k_is); (case k => k_is))
      case f_l_called => (refine' Pp.att_mk KX G ?a ?l ?e ?k; (case a => k_is); (case l => k_is); (case e => k_is); (case k => k_is))
      case f_l_slip => (refine' Pp.at_mk KX G ?a ?l ?e ?k; (case a => k_is); (case l => k_is); (case e => k_is); (case k => k_is))
      case f_l_heard => (refine' Pp.at_mk KX G ?a ?l ?e ?k; (case a => k_is); (case l => k_is); (case e => k_is); (case k => k_is))
      case f_l_pull => (refine' Pp.at_mk KX G ?a ?l ?e ?k; (case a => k_is); (case l => k_is); (case e => k_is); (case k => k_is))
      case f_l_one_of => (refine' Pp.at_mk KX G ?a ?l ?e ?k; (case a => k_is); (case l => k_is); (case e => k_is); (case k => k_is))
      case f_l_common => (refine' Pp.at_mk KX G ?a ?l ?e ?k; (case a => k_is); (case l => k_is); (case e => k_is); (case k => k_is))
      case f_l_power => (refine' Pp.at_mk KX G ?a ?l ?e ?k; (case a => k_is); (case l => k_is); (case e => k_is); (case k => k_is))
      case f_l_is_four => (refine' Pp.at_mk KX G ?a ?l ?e ?k; (case a => k_is); (case l => k_is); (case e => k_is); (case k => k_is))
      case f_l_splits => (refine' Pp.at_mk KX G ?a ?l ?e ?k; (case a => k_is); (case l => k_is); (case e => k_is); (case k => k_is))
      case f_l_is_always => (refine' Pp.at_mk KX G ?a ?l ?e ?k; (case a => k_is); (case l => k_is); (case e => k_is); (case k => k_is))
      case f_l_kind => (refine' Pp.at_mk KX G ?a ?l ?e ?k; (case a => k_is); (case l => k_is); (case e => k_is); (case k => k_is))
      case f_l_answer => (refine' Pp.at_mk KX G ?a ?l ?e ?k; (case a => k_is); (case l => k_is); (case e => k_is); (case k => k_is))
      case f_l_broken => (refine' Pp.at_mk KX G ?a ?l ?e ?k; (case a => k_is); (case l => k_is); (case e => k_is); (case k => k_is))
      case f_l_pair => (refine' Pp.at_mk KX G ?a ?l ?e ?k; (case a => k_is); (case l => k_is); (case e => k_is); (case k => k_is))
      case f_l_small => (refine' Pp.at_mk KX G ?a ?l ?e ?k; (case a => k_is); (case l => k_is); (case e => k_is); (case k => k_is))
      case f_l_plan => (refine' Pp.at_mk KX G ?a ?l ?e ?k; (case a => k_is); (case l => k_is); (case e => k_is); (case k => k_is))
      case f_l_some_n => (refine' Pp.at_mk KX G ?a ?l ?e ?k; (case a => k_is); (case l => k_is); (case e => k_is); (case k => k_is))
      case f_l_new_wish => (refine' Pp.at_mk KX G ?a ?l ?e ?k; (case a => k_is); (case l => k_is); (case e => k_is); (case k => k_is))
      case f_l_new_deed => (refine' Pp.at_mk KX G ?a ?l ?e ?k; (case a => k_is); (case l => k_is); (case e => k_is); (case k => k_is))
      case f_l_told_deed => (refine' Pp.at_mk KX G ?a ?l ?e ?k; (case a => k_is); (case l => k_is); (case e => k_is); (case k => k_is))
      case f_l_named => (refine' Pp.at_mk KX G ?a ?l ?e ?k; (case a => k_is); (case l => k_is); (case e => k_is); (case k => k_is))
      case f_l_behind => (refine' Pp.at_mk KX G ?a ?l ?e ?k; (case a => k_is); (case l => k_is); (case e => k_is); (case k => k_is))
      case f_l_many => (refine' Pp.at_mk KX G ?a ?l ?e ?k; (case a => k_is); (case l => k_is); (case e => k_is); (case k => k_is))
      case f_l_spoilt => (refine' Pp.at_mk KX G ?a ?l ?e ?k; (case a => k_is); (case l => k_is); (case e => k_is); (case k => k_is))
      case f_l_jug => (refine' Pp.at_mk KX G ?a ?l ?e ?k; (case a => k_is); (case l => k_is); (case e => k_is); (case k => k_is))
      case f_undo => (refine' Pp.atM_mk ?a ?l ?e ?k ?i ?n; (case a => k_is); (case l => k_is); (case e => k_is); (case k => k_is); (case i => k_is); (case n => k_is))
      case f_l_book_is => (refine' Pp.at_mk KX G ?a ?l ?e ?k; (case a => k_is); (case l => k_is); (case e => k_is); (case k => k_is))
      case f_l_right => (refine' Pp.att_mk KX G ?a ?l ?e ?k; (case a => k_is); (case l => k_is); (case e => k_is); (case k => k_is))
      case f_law => (refine' Pp.at_mk KX G ?a ?l ?e ?k; (case a => k_is); (case l => k_is); (case e => k_is); (case k => k_is))
