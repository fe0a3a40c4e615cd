import PyProof.Rows.All
import Wide.All
import OpenK.AllK
import Wide.FinOn
import KE.KStateDown
import HandS.ForMost
import HandS.ForExc
import HandS.More
import HandS.Wide
import HandS.WideBits
import HandS.Style
import HandS.Flow
import HandS.Zip
import HandS.IsInst
import HandS.Defaults
import HandS.Head0
import HandS.Head1
import HandS.Head2
import HandS.HeadEnd
import HandS.HeadHook1
import HandS.HeadHook2
import HandS.HeadHook3
import HandS.HeadHook4
import HandS.HeadWalk
import HandS.Evl
import KE.DataMinMax
import PySem.Challenge.RW_brickfloor_k04_whole_stripes
set_option pp.maxSteps 700
set_option Elab.async false
set_option linter.all false
set_option maxRecDepth 100000
set_option maxHeartbeats 4000000
/-! ### a def of the top, where it stands, and its promise -/
namespace BF
open PySem PySem.Spec PyProof.Rows L2
abbrev FnP (K : PySem.W.Frag) (x q : Str) (st : Stmt) (f : Addr) (fd : FuncData) : Prop := FunD K x q (defArgs st) (defBody st) (defScope st) [] [] f fd
/-- the def x of the top stands where the module's name says -/
def Pl (K : PySem.W.Frag) (mg : Str → Option Value) (x : Str) (st : Stmt) : Prop := ∃ f fd, FnP K x x st f fd ∧ mg x = some (.ref f)
/-- the def x keeps its promise, by calls at most k deep -/
def Has (P : Program) (w : World) (K : PySem.W.Frag) (mg : Str → Option Value) (base : Heap) (C : CXT) (k : Nat) (x : Str) (ps : List Str) (sp : Sp) : Prop :=
  ∃ f fd, FnOk P w K mg base C k f fd ps sp ∧ mg x = some (.ref f) ∧ PySem.W.keepIn K (.ref f) = true ∧ Binds K fd ps [] ∧ ∃ oc od osl, K.lookup f = some ⟨oc, od, .func fd, osl⟩
section
variable {P : Program} {w : World} {K : PySem.W.Frag} {mg : Str → Option Value} {base : Heap} {x : Str} {st : Stmt} {N ps : List Str} {k : Nat} {sp : Sp}
theorem Pl.mkX {C : CXT} (p : Pl K mg x st) (S : FnScope N ps (defScope st))
    (hb : ∀ (kV doc pm : Value) (an : Option Addr) (cdv ct : Value) (us : List Value), us.length = ps.length → bindArgs (PySem.W.fnOf x x (defArgs st) (defBody st) (defScope st) .none kV doc pm an cdv ct) ⟨us, []⟩ = pure (ps.zip us))
    (len : ∀ vs H Q E, sp vs H Q E → vs.length = ps.length)
    (body : ∀ (f : Addr) (cdv : Value) (A : Around) (outer : List Env) (s : Shared) (H : Hp) (vs : List V) (Q : VK) (E : XK), Room k (A.deeper (envOfC x (defScope st) s.heap.objs.size f cdv)) → sp vs H Q E →
      ∃ t, PSs (cxOf C P w K mg base N x (defScope st) f cdv A outer s H E) (defBody st) t ∧ t { nx := fun _ H' => Q .non H', rt := Q } (start N vs) H) : Has P w K mg base C (k + 1) x ps sp := by
  obtain ⟨f, fd, F, g⟩ := p
  obtain ⟨oc, od, _, _, _, _, _, _, _, osl, _, lk, _⟩ := F.ex
  exact ⟨f, fd, F.ok S len (body f), g, F.kp, F.bindsN hb, oc, od, osl, lk⟩
/-- of the def at f (the law) -/
theorem Has.at {C : CXT} {f : Addr} {fd : FuncData} (h : Has P w K mg base C k x ps sp) (F : FnP K x x st f fd) (g : mg x = some (.ref f)) : FnOk P w K mg base C k f fd ps sp := by
  obtain ⟨f', fd', G, g', _, _, oc, od, osl, lk⟩ := h
  obtain ⟨oc2, od2, _, _, _, _, _, _, _, osl2, _, lk2, _⟩ := F.ex
  have e : f' = f := by
    have z := g'.symm.trans g
    cases z
    rfl
  subst e
  have z := lk.symm.trans lk2
  cases z
  exact G
theorem Pl.mk0 (p : Pl K mg x st) (S : FnScope N ps (defScope st))
    (hb : ∀ (kV doc pm : Value) (an : Option Addr) (cdv ct : Value) (us : List Value), us.length = ps.length → bindArgs (PySem.W.fnOf x x (defArgs st) (defBody st) (defScope st) .none kV doc pm an cdv ct) ⟨us, []⟩ = pure (ps.zip us))
    (len : ∀ vs H Q E, sp vs H Q E → vs.length = ps.length)
    (body : ∀ (f : Addr) (cdv : Value) (A : Around) (outer : List Env) (s : Shared) (H : Hp) (vs : List V) (Q : VK) (E : XK), Room k (A.deeper (envOfC x (defScope st) s.heap.objs.size f cdv)) → sp vs H Q E →
      ∃ t, PSs (cxOf CX0 P w K mg base N x (defScope st) f cdv A outer s H E).nox (defBody st) t ∧ t { nx := fun _ H' => Q .non H', rt := Q } (start N vs) H) : Has P w K mg base CX0 (k + 1) x ps sp :=
  p.mkX S hb len fun f cdv A outer s H vs Q E hr h => by
    obtain ⟨t, a, b⟩ := body f cdv A outer s H vs Q E hr h
    exact ⟨t, a.nox, b⟩
end
section
variable {X : Cx} {C : CXT} {k : Nat} {ps : List Str} {sp : Sp} {E : XK} {x : Str} {p pos : Pos} {e : Expr} {es : List Expr} {t : TA}
theorem pe_fn (h : Has X.prog X.w X.K X.mg X.base C k x ps sp) (hr : Room k X.A) (hx : Passes C X E) (ha : PA X (e :: es) t) (hg : Gl X x := by rfl) (hdb : (x == ("__debug__" : Str)) = false := by decide)
    (he : starEach (e :: es) X.env = (false, eval e X.env) :: starEach es X.env := by rfl) (hpl : (backTo pos (starEach es X.env)).any (·.1) = false := by rfl) : PE X (.Call (.Name x p) (e :: es) [] pos) (tCall sp [] E t) := by
  obtain ⟨f, fd, F, hm, hk, hb, _⟩ := h
  exact pe_call F hr hg hm hk hb .nil hx ha hdb he hpl
theorem pe_fn0 (h : Has X.prog X.w X.K X.mg X.base C k x ps sp) (hr : Room k X.A) (hx : Passes C X E) (hg : Gl X x := by rfl) (hdb : (x == ("__debug__" : Str)) = false := by decide) : PE X (.Call (.Name x p) [] [] pos) (tCall sp [] E tNil) := by
  obtain ⟨f, fd, F, hm, hk, hb, _⟩ := h
  exact pe_call0 F hr hg hm hk hb .nil hx hdb
end
/-! ### sizes of ints -/
/-- of less than n bits -/
structure Bn (n : Nat) (x : Int) : Prop where
  lt : x.natAbs < 2 ^ n
theorem Bn.mono {n m : Nat} {x : Int} (h : Bn n x) (l : n ≤ m) : Bn m x := ⟨Nat.lt_of_lt_of_le h.lt (Nat.pow_le_pow_right (by decide) l)⟩
theorem bnl {n : Nat} {x : Int} (h : x.natAbs < 2 ^ n) : Bn n x := ⟨h⟩
theorem bn0 {n : Nat} : Bn n 0 := ⟨Nat.two_pow_pos _⟩
theorem Bn.mul {n m : Nat} {x y : Int} (h : Bn n x) (k : Bn m y) : Bn (n + m) (x * y) := ⟨wide_lt h.lt k.lt⟩
theorem Bn.add {n m : Nat} {x y : Int} (h : Bn n x) (k : Bn m y) : Bn (n + m + 1) (x + y) := by
  have h1 : x.natAbs < 2 ^ n := h.lt
  have h2 : y.natAbs < 2 ^ m := k.lt
  have a : 2 ^ n ≤ 2 ^ (n + m) := Nat.pow_le_pow_right (by decide) (by omega)
  have b : 2 ^ m ≤ 2 ^ (n + m) := Nat.pow_le_pow_right (by decide) (by omega)
  have c : 2 ^ (n + m + 1) = 2 ^ (n + m) * 2 := Nat.pow_succ 2 (n + m)
  have d := Int.natAbs_add_le x y
  refine ⟨?_⟩
  omega
theorem Bn.le {n : Nat} {x y : Int} (h : Bn n y) (l : x.natAbs ≤ y.natAbs) : Bn n x := ⟨Nat.lt_of_le_of_lt l h.lt⟩
theorem Bn.of_le {n : Nat} {x y : Int} (h : Bn n y) (h0 : 0 ≤ x) (l : x ≤ y) : Bn n x := h.le (by omega)
theorem Bn.neg {n : Nat} {x : Int} (h : Bn n x) : Bn n (-x) := h.le (by omega)
theorem Bn.sub {n m : Nat} {x y : Int} (h : Bn n x) (k : Bn m y) : Bn (n + m + 1) (x - y) := by
  rw [Int.sub_eq_add_neg]
  exact h.add k.neg
theorem Bn.mulOk {n m : Nat} {x y : Int} (h : Bn n x) (k : Bn m y) (l : n + m ≤ 134217728) : CMulX x y := mulx_ok h.lt k.lt l
theorem Bn.divOk {n : Nat} {x y : Int} (k : Bn n y) (p : 0 < y) (h0 : 0 < n) (l : n ≤ 9000) : CDivW x y := wide_div p k.lt h0 l
theorem divOk_lit {x : Int} {y : Int} (p : 0 < y) (l : y < 4294967296) : CDivW x y := wide_div (b := 32) p (by omega) (by decide) (by decide)
theorem Bn.div {n : Nat} {x y : Int} (h : Bn n x) (p : 0 < y) : Bn n (x / y) := by
  refine h.le ?_
  have a := Int.emod_add_mul_ediv x y
  have b := Int.emod_nonneg x (Int.ne_of_gt p)
  have c := Int.emod_lt_of_pos x p
  rcases Int.lt_or_le x 0 with hx | hx
  · -- x < 0: x / y ≥ x
    have d : x / y < 0 := Int.ediv_neg_of_neg_of_pos hx p
    have e : y * (x / y) ≤ 1 * (x / y) := Int.mul_le_mul_of_nonpos_right (by omega) (by omega)
    rcases Int.lt_or_le (x / y) x with f | f
    · have q1 : y * (x / y) ≤ y * (x - 1) := Int.mul_le_mul_of_nonneg_left (by omega) (by omega)
      have q2 : y * (x - 1) = y * x - y := by rw [Int.mul_sub, Int.mul_one]
      have q3 : y * x ≤ 1 * x := Int.mul_le_mul_of_nonpos_right (by omega) (by omega)
      omega
    · omega
  · have d : 0 ≤ x / y := Int.ediv_nonneg hx (Int.le_of_lt p)
    have e : 1 * (x / y) ≤ y * (x / y) := Int.mul_le_mul_of_nonneg_right (by omega) d
    omega
theorem Bn.mod {n : Nat} {x y : Int} (h : Bn n y) (p : 0 < y) : Bn n (x % y) := h.of_le (Int.emod_nonneg x (Int.ne_of_gt p)) (Int.le_of_lt (Int.emod_lt_of_pos x p))
theorem bn_bits {n : Nat} {x : Int} (h : Builtin.Int.intBits x ≤ n) : Bn (n + 1) x := by
  unfold Builtin.Int.intBits at h
  refine ⟨?_⟩
  split at h
  · rename_i z
    have e : x = 0 := by simpa using z
    rw [e]
    exact Nat.two_pow_pos _
  · have a : x.natAbs < 2 ^ (x.natAbs.log2 + 1) := Nat.lt_log2_self
    exact Nat.lt_of_lt_of_le a (Nat.pow_le_pow_right (by decide) (by omega))
theorem mulOk_left {x y : Int} (h : x.natAbs < 4294967296) (k : Bn 100000000 y) : CMulX x y := mulx_ok (a := 32) h k.lt (by decide)
/-- a size of the program: from 1 on, of less than 2000 bits -/
structure Sz (x : Int) : Prop where
  pos : 0 < x
  bn : Bn 2000 x
/-! ### heaps that grow -/
theorem same_upd {H : Hp} {p : Addr} {o : HO} (h : H p = none) : Same H (upd H p o) := fun b x e => by
  rw [upd_ne (ne_of_none e h)]
  exact e
theorem newH {H H2 : Hp} {p : Addr} {o : HO} (e : upd H p o = H2) (hp : H p = none) : Same H H2 ∧ H2 p = some o := by
  rw [← e]
  exact ⟨same_upd hp, upd_same⟩
theorem Same.tup {K : PySem.W.Frag} {H H' : Hp} {a : Addr} {xs : List V} (e : Same H H') (h : SqT K H a xs) : SqT K H' a xs := by
  rcases h with (h | ⟨o, h⟩) | h
  · exact .inl (.inl (e _ _ h))
  · exact .inl (.inr ⟨o, e _ _ h⟩)
  · exact .inr h
theorem sqL {K : PySem.W.Frag} {H : Hp} {a : Addr} {xs : List V} (h : H a = some (.lst xs)) : SqL K H a xs := .inl (.inl h)
theorem sqT {K : PySem.W.Frag} {H : Hp} {a : Addr} {xs : List V} (h : H a = some (.tup xs)) : SqT K H a xs := .inl (.inl h)
/-- the int that a slot holds, as a measure -/
def slotN (σ : L2.St) (i : Nat) : Nat := match σ[i]? with
  | some (some (.int n)) => n.toNat
  | _ => 0
section
variable {A B : Prop} {i j : Int}
theorem iteD {p : Prop} [Decidable p] (h1 : p → A) (h2 : ¬ p → B) : if decide p = true then A else B := ite2 (fun c => h1 (of_decide_eq_true c)) fun c => h2 fun z => c (decide_eq_true z)
theorem iteEq (h1 : i = j → A) (h2 : i ≠ j → B) : if decide (V.int i = V.int j) = true then A else B := iteD (fun c => h1 (V.int.inj c)) fun c => h2 fun z => c (by rw [z])
theorem iteNe (h1 : i ≠ j → A) (h2 : i = j → B) : if (!decide (V.int i = V.int j)) = true then A else B := by
  by_cases c : i = j
  · rw [decide_eq_true (show V.int i = V.int j by rw [c])]
    exact iteF (h2 c)
  · rw [decide_eq_false (show ¬ V.int i = V.int j from fun z => c (V.int.inj z))]
    exact iteT (h1 c)
theorem iteP {p : Prop} [Decidable p] (hp : p) (h : A) : if decide p = true then A else B := by
  rw [decide_eq_true hp]
  exact iteT h
theorem iteN {p : Prop} [Decidable p] (hp : ¬ p) (h : B) : if decide p = true then A else B := by
  rw [decide_eq_false hp]
  exact iteF h
theorem iteNP {p : Prop} [Decidable p] (hp : p) (h : B) : if (!decide p) = true then A else B := by
  rw [decide_eq_true hp]
  exact iteF h
theorem iteNN {p : Prop} [Decidable p] (hp : ¬ p) (h : A) : if (!decide p) = true then A else B := by
  rw [decide_eq_false hp]
  exact iteT h
theorem iteB {b : Bool} (h1 : b = true → A) (h2 : b = false → B) : if b = true then A else B := by
  cases b with
  | true => exact iteT (h1 rfl)
  | false => exact iteF (h2 rfl)
end
theorem lc_yes {σ : L2.St} {H : Hp} {A B : Hp → Prop} (h : A H) : tYes σ H fun b H3 => if b = true then A H3 else B H3 := by
  show if true = true then A H else B H
  rw [if_pos rfl]
  exact h
/-- go on from a word -/
theorem enter {t : TS} {D : Ends} {σ : L2.St} {H : Hp} (M : L2.St → Hp → Prop) (h : M σ H) (k : ∀ σ H, M σ H → t D σ H) : t D σ H := k σ H h
theorem size4 {n : Nat} (h : n ≤ 1000000) : n ≤ sizeLine := Nat.le_trans h (by decide)
end BF

/-! ### plain mathematics of the stripes -/
namespace BF
/-- pairs below l and h that come to t -/
def pairsI (l h t : Int) : Int := max 0 (min t (l - 1) - max 0 (t - h + 1) + 1)
def alikeI (L W s c : Int) : Int := L / s * W + L % s * (W / s) + pairsI (L % s) (W % s) c + pairsI (L % s) (W % s) (c + s)
theorem pairs_swap {l h t : Int} (hl : 0 ≤ l) (hh : 0 ≤ h) : pairsI l h t = pairsI h l t := by
  unfold pairsI
  omega
theorem pairs_zero {l t : Int} (hl : 0 ≤ l) (ht : 0 ≤ t) : pairsI l 0 t = 0 := by
  unfold pairsI
  omega
theorem pairs_step {l h t : Int} (hl : 0 ≤ l) (hh : 0 ≤ h) (ht : 0 ≤ t) : pairsI l (h + 1) t = pairsI l h t + if h ≤ t ∧ t < h + l then 1 else 0 := by
  unfold pairsI
  split <;> omega
theorem pairs_full {l s c : Int} (hl : 0 ≤ l) (hs : l < s) (h0 : 0 ≤ c) (h1 : c < s) : pairsI l s c + pairsI l s (c + s) = l := by
  unfold pairsI
  omega
theorem alike_swap {L W s c : Int} (hs : 0 < s) : alikeI L W s c = alikeI W L s c := by
  have h1 := Int.emod_nonneg L (Int.ne_of_gt hs)
  have h2 := Int.emod_nonneg W (Int.ne_of_gt hs)
  unfold alikeI
  rw [pairs_swap (t := c) h1 h2, pairs_swap (t := c + s) h1 h2]
  have e1 := Int.emod_add_mul_ediv L s
  have e2 := Int.emod_add_mul_ediv W s
  have k : L / s * W + L % s * (W / s) = W / s * L + W % s * (L / s) := by
    generalize L / s = q at *
    generalize W / s = r at *
    generalize L % s = l at *
    generalize W % s = h at *
    have x1 : q * W = q * h + q * (s * r) := by rw [← Int.mul_add, e2]
    have x2 : r * L = r * l + r * (s * q) := by rw [← Int.mul_add, e1]
    have x3 : q * (s * r) = r * (s * q) := by rw [Int.mul_left_comm, Int.mul_left_comm r s q, Int.mul_comm q r]
    have x4 : l * r = r * l := Int.mul_comm _ _
    have x5 : h * q = q * h := Int.mul_comm _ _
    omega
  rw [k]
/-- how many below n leave less than l behind them -/
def cntI (c s l : Int) (n : Nat) : Int := (((List.range n).filter (fun u : Nat => decide ((c - (u : Int)) % s < l))).length : Int)
theorem cnt_succ (c s l : Int) (n : Nat) : cntI c s l (n + 1) = cntI c s l n + if (c - (n : Int)) % s < l then 1 else 0 := by
  unfold cntI
  rw [List.range_succ, List.filter_append, List.length_append]
  by_cases h : (c - (n : Int)) % s < l
  · rw [if_pos h]
    simp [List.filter_cons, h]
  · rw [if_neg h]
    simp [List.filter_cons, h]
theorem cnt_eq {c s l : Int} (hl : 0 ≤ l) (hls : l < s) (h0 : 0 ≤ c) (h1 : c < s) : ∀ n : Nat, cntI c s l n = l * ((n : Int) / s) + pairsI l ((n : Int) % s) c + pairsI l ((n : Int) % s) (c + s)
  | 0 => by
    have hs : 0 < s := by omega
    have e1 : ((0 : Nat) : Int) / s = 0 := Int.zero_ediv s
    have e2 : ((0 : Nat) : Int) % s = 0 := Int.zero_emod s
    rw [e1, e2, pairs_zero hl h0, pairs_zero hl (by omega)]
    show (0 : Int) = l * 0 + 0 + 0
    omega
  | n + 1 => by
    have hs : 0 < s := by omega
    rw [cnt_succ, cnt_eq hl hls h0 h1 n]
    have e := Int.emod_add_mul_ediv (n : Int) s
    have g0 := Int.emod_nonneg (n : Int) (Int.ne_of_gt hs)
    have g1 := Int.emod_lt_of_pos (n : Int) hs
    have ec : ((n + 1 : Nat) : Int) = (n : Int) + 1 := by omega
    rw [ec]
    generalize hr : (n : Int) / s = r at *
    generalize hh : (n : Int) % s = h at *
    -- (c - n) % s
    have em : (c - (n : Int)) % s = if h ≤ c then c - h else c - h + s := by
      split
      · have : c - (n : Int) = (c - h) + s * (-r) := by rw [Int.mul_neg]; omega
        rw [this, Int.add_mul_emod_self_left, Int.emod_eq_of_lt (by omega) (by omega)]
      · have : c - (n : Int) = (c - h + s) + s * (-r - 1) := by rw [Int.mul_sub, Int.mul_neg]; omega
        rw [this, Int.add_mul_emod_self_left, Int.emod_eq_of_lt (by omega) (by omega)]
    rcases Int.lt_or_le (h + 1) s with hlt | hge
    · have d1 : ((n : Int) + 1) / s = r := by
        have : (n : Int) + 1 = (h + 1) + s * r := by omega
        rw [this, Int.add_mul_ediv_left _ _ (Int.ne_of_gt hs), Int.ediv_eq_zero_of_lt (by omega) hlt]
        omega
      have d2 : ((n : Int) + 1) % s = h + 1 := by
        have : (n : Int) + 1 = (h + 1) + s * r := by omega
        rw [this, Int.add_mul_emod_self_left, Int.emod_eq_of_lt (by omega) hlt]
      rw [d1, d2, pairs_step hl g0 h0, pairs_step hl g0 (by omega : 0 ≤ c + s), em]
      generalize pairsI l h c = p1
      generalize pairsI l h (c + s) = p2
      generalize l * r = lr
      split <;> split <;> split <;> split <;> omega
    · have eh : h = s - 1 := by omega
      have d1 : ((n : Int) + 1) / s = r + 1 := by
        have : (n : Int) + 1 = s * (r + 1) := by rw [Int.mul_add]; omega
        rw [this, Int.mul_ediv_cancel_left _ (Int.ne_of_gt hs)]
      have d2 : ((n : Int) + 1) % s = 0 := by
        have : (n : Int) + 1 = s * (r + 1) := by rw [Int.mul_add]; omega
        rw [this, Int.mul_emod_right]
      have f := pairs_full hl hls h0 h1
      have s1 := pairs_step (l := l) (h := h) (t := c) hl g0 h0
      have s2 := pairs_step (l := l) (h := h) (t := c + s) hl g0 (by omega)
      have e3 : h + 1 = s := by omega
      rw [e3] at s1 s2
      rw [d1, d2, pairs_zero hl h0, pairs_zero hl (by omega), em, Int.mul_add]
      generalize pairsI l h c = p1 at *
      generalize pairsI l h (c + s) = p2 at *
      generalize pairsI l s c = p3 at *
      generalize pairsI l s (c + s) = p4 at *
      generalize l * r = lr
      split at s1 <;> split at s2 <;> split <;> split at em <;> omega
/-- the law's own count, row by row -/
theorem law_alike_few {L s c : Int} {W : Nat} (h0 : 0 ≤ c) (h1 : c < s) : L / s * (W : Int) + cntI c s (L % s) W = alikeI L W s c := by
  have hs : 0 < s := by omega
  rw [cnt_eq (Int.emod_nonneg L (Int.ne_of_gt hs)) (Int.emod_lt_of_pos L hs) h0 h1]
  unfold alikeI
  omega
/-- sums below n -/
def sumI (f : Int → Int) : Nat → Int
  | 0 => 0
  | n + 1 => sumI f n + f n
theorem sumI_add (f g : Int → Int) : ∀ n, sumI (fun i => f i + g i) n = sumI f n + sumI g n
  | 0 => rfl
  | n + 1 => by
    show sumI (fun i => f i + g i) n + (f n + g n) = (sumI f n + f n) + (sumI g n + g n)
    rw [sumI_add f g n]
    omega
theorem sumI_const (k : Int) : ∀ n : Nat, sumI (fun _ => k) n = n * k
  | 0 => by
    show (0 : Int) = ((0 : Nat) : Int) * k
    omega
  | n + 1 => by
    show sumI (fun _ => k) n + k = ((n + 1 : Nat) : Int) * k
    rw [sumI_const k n]
    have e : ((n + 1 : Nat) : Int) = (n : Int) + 1 := by omega
    rw [e, Int.add_mul]
    omega
theorem sumI_congr {f g : Int → Int} : ∀ {n : Nat}, (∀ i : Nat, i < n → f i = g i) → sumI f n = sumI g n
  | 0, _ => rfl
  | n + 1, h => by
    show sumI f n + f n = sumI g n + g n
    rw [sumI_congr (n := n) (fun i hi => h i (by omega)), h n (by omega)]
theorem sumI_ind (a b : Int) (h0 : 0 ≤ a) : ∀ n : Nat, sumI (fun t => if a ≤ t ∧ t < a + b then 1 else 0) n = max 0 (min b ((n : Int) - a))
  | 0 => by
    show (0 : Int) = max 0 (min b (((0 : Nat) : Int) - a))
    omega
  | n + 1 => by
    show sumI (fun t => if a ≤ t ∧ t < a + b then 1 else 0) n + (if a ≤ (n : Int) ∧ (n : Int) < a + b then 1 else 0) = _
    rw [sumI_ind a b h0 n]
    split <;> omega
theorem ifc {p q : Prop} [Decidable p] [Decidable q] (h : p ↔ q) {a b : Int} : (if p then a else b) = if q then a else b := by
  by_cases c : p
  · rw [if_pos c, if_pos (h.mp c)]
  · rw [if_neg c, if_neg (fun z => c (h.mpr z))]
theorem sum_pairs {l s : Int} {n : Nat} (hl : 0 ≤ l) (hls : l ≤ s) (hn : (n : Int) = s) : ∀ h : Nat, (h : Int) ≤ s → sumI (fun c => pairsI l h c + pairsI l h (c + s)) n = l * h
  | 0, _ => by
    rw [sumI_congr (g := fun _ => 0) (fun i _ => by
      show pairsI l ((0 : Nat) : Int) i + pairsI l ((0 : Nat) : Int) (i + s) = 0
      rw [show ((0 : Nat) : Int) = 0 from rfl, pairs_zero hl (by omega), pairs_zero hl (by omega)]
      rfl), sumI_const]
    show (n : Int) * 0 = l * 0
    omega
  | h + 1, hh => by
    have ih := sum_pairs hl hls hn h (by omega)
    have e : ((h + 1 : Nat) : Int) = (h : Int) + 1 := by omega
    have step : sumI (fun c => pairsI l ((h + 1 : Nat) : Int) c + pairsI l ((h + 1 : Nat) : Int) (c + s)) n
        = sumI (fun c => (pairsI l h c + pairsI l h (c + s)) + ((if (h : Int) ≤ c ∧ c < (h : Int) + l then 1 else 0) + (if (h : Int) - s ≤ c ∧ c < (h : Int) - s + l then 1 else 0))) n := by
      refine sumI_congr fun i hi => ?_
      rw [e, pairs_step hl (by omega) (by omega), pairs_step hl (by omega) (by omega : 0 ≤ (i : Int) + s)]
      have q1 : ((h : Int) ≤ (i : Int) + s ∧ (i : Int) + s < (h : Int) + l) ↔ ((h : Int) - s ≤ (i : Int) ∧ (i : Int) < (h : Int) - s + l) := by omega
      rw [ifc q1]
      omega
    have z : sumI (fun c => (if (h : Int) - s ≤ c ∧ c < (h : Int) - s + l then (1 : Int) else 0)) n = sumI (fun c => if (0 : Int) ≤ c ∧ c < 0 + max 0 ((h : Int) - s + l) then 1 else 0) n := by
      refine sumI_congr fun i hi => ?_
      have q1 : ((h : Int) - s ≤ (i : Int) ∧ (i : Int) < (h : Int) - s + l) ↔ ((0 : Int) ≤ (i : Int) ∧ (i : Int) < 0 + max 0 ((h : Int) - s + l)) := by omega
      show (if (h : Int) - s ≤ (i : Int) ∧ (i : Int) < (h : Int) - s + l then (1 : Int) else 0) = if (0 : Int) ≤ (i : Int) ∧ (i : Int) < 0 + max 0 ((h : Int) - s + l) then 1 else 0
      rw [ifc q1]
    rw [step, sumI_add, ih, sumI_add, z, sumI_ind _ _ (by omega), sumI_ind _ _ (by omega), e, Int.mul_add]
    omega
theorem sum_alike {L W s : Int} {n : Nat} (hs : 0 < s) (hn : (n : Int) = s) (hW : 0 ≤ W) : sumI (fun c => alikeI L W s c) n = L * W := by
  have h1 := Int.emod_nonneg L (Int.ne_of_gt hs)
  have h2 := Int.emod_nonneg W (Int.ne_of_gt hs)
  have g1 := Int.emod_lt_of_pos L hs
  have g2 := Int.emod_lt_of_pos W hs
  have e1 := Int.emod_add_mul_ediv L s
  have e2 := Int.emod_add_mul_ediv W s
  have e : sumI (fun c => alikeI L W s c) n = sumI (fun c => (L / s * W + L % s * (W / s)) + (pairsI (L % s) (W % s) c + pairsI (L % s) (W % s) (c + s))) n := sumI_congr fun i _ => by
    unfold alikeI
    omega
  obtain ⟨h, hh⟩ := Int.eq_ofNat_of_zero_le h2
  rw [e, sumI_add, sumI_const, hh, sum_pairs h1 (by omega) hn h (by omega), ← hh, hn]
  generalize L / s = q at *
  generalize W / s = r at *
  generalize L % s = l at *
  generalize W % s = k at *
  have x1 : L * W = (l + s * q) * W := by rw [e1]
  have x2 : (l + s * q) * W = l * W + s * q * W := Int.add_mul _ _ _
  have x3 : l * W = l * k + l * (s * r) := by rw [← Int.mul_add, e2]
  have x4 : s * (q * W + l * r) = s * q * W + l * (s * r) := by rw [Int.mul_add, Int.mul_assoc, Int.mul_left_comm s l r]
  omega
/-- two colours that aren't alike many -/
theorem alike_differ {L W s : Int} (hs : 0 < s) (hl : 0 < L % s) (hh : 0 < W % s) : ∃ c d : Int, 0 ≤ c ∧ c < s ∧ 0 ≤ d ∧ d < s ∧ alikeI L W s c ≠ alikeI L W s d := by
  have g1 := Int.emod_lt_of_pos L hs
  have g2 := Int.emod_lt_of_pos W hs
  refine ⟨min (L % s) (W % s) - 1, s - 1, by omega, by omega, by omega, by omega, ?_⟩
  unfold alikeI pairsI
  generalize L / s * W = x
  generalize L % s * (W / s) = y
  omega
theorem alike_same {L W s c : Int} (hs : 0 < s) (h0 : 0 ≤ c) (h : L % s = 0 ∨ W % s = 0) : alikeI L W s c = L / s * W + L % s * (W / s) := by
  have h1 := Int.emod_nonneg L (Int.ne_of_gt hs)
  have h2 := Int.emod_nonneg W (Int.ne_of_gt hs)
  unfold alikeI
  rcases h with e | e
  · rw [e, pairs_swap (t := c) (by omega) h2, pairs_swap (t := c + s) (by omega) h2, pairs_zero h2 h0, pairs_zero h2 (by omega)]
    omega
  · rw [e, pairs_zero h1 h0, pairs_zero h1 (by omega)]
    omega
end BF

namespace BF
open PySem PySem.Spec PyProof.Rows L2
def topS (i : Nat) : Stmt := PySem.Challenge.pw_brickfloor_k04_whole_stripes.main.body.getD i (.Pass ⟨0, 0, 0, 0⟩)
abbrev s_is_number : Stmt := topS 5
abbrev s_check_sizes : Stmt := topS 6
abbrev s_pairs_to : Stmt := topS 8
abbrev s_alike : Stmt := topS 9
abbrev s__law_number : Stmt := topS 11
abbrev s__law_four : Stmt := topS 12
abbrev s__law_whole : Stmt := topS 13
abbrev s__law_alike : Stmt := topS 14
abbrev s_law : Stmt := topS 15
theorem sc_is_number : FnScope ["thing"] ["thing"] (defScope s_is_number) := ⟨rfl, rfl, rfl, by decide +kernel, rfl, by decide +kernel, by decide +kernel⟩
theorem sc_check_sizes : FnScope ["some", "one"] ["some"] (defScope s_check_sizes) := ⟨rfl, rfl, rfl, by decide +kernel, rfl, by decide +kernel, by decide +kernel⟩
theorem sc_pairs_to : FnScope ["long", "high", "sum_wanted"] ["long", "high", "sum_wanted"] (defScope s_pairs_to) := ⟨rfl, rfl, rfl, by decide +kernel, rfl, by decide +kernel, by decide +kernel⟩
theorem sc_alike : FnScope ["length", "width", "size", "colour", "long", "high", "whole"] ["length", "width", "size", "colour"] (defScope s_alike) := ⟨rfl, rfl, rfl, by decide +kernel, rfl, by decide +kernel, by decide +kernel⟩
theorem sc__law_number : FnScope ["_law_cell", "_law_at", "_law_whole_here", "_law_mixed", "_law_more"] ["_law_cell", "_law_at", "_law_whole_here"] (defScope s__law_number) := ⟨rfl, rfl, rfl, by decide +kernel, rfl, by decide +kernel, by decide +kernel⟩
theorem sc__law_four : FnScope ["_law_script", "_law_at", "_law_most", "_law_whole_here", "_law_number_here", "_law_other", "_law_first", "_law_second", "_law_few", "_law_more", "_law_less", "_law_kind", "_law_length", "_law_width"] ["_law_script", "_law_at", "_law_most"] (defScope s__law_four) := ⟨rfl, rfl, rfl, by decide +kernel, rfl, by decide +kernel, by decide +kernel⟩
theorem sc__law_whole : FnScope ["_law_found"] ["_law_found"] (defScope s__law_whole) := ⟨rfl, rfl, rfl, by decide +kernel, rfl, by decide +kernel, by decide +kernel⟩
theorem sc__law_alike : FnScope ["_law_length", "_law_width", "_law_size", "_law_colour", "_law_long", "_law_found", "_law_high", "_law_turn", "_law_up"] ["_law_length", "_law_width", "_law_size", "_law_colour"] (defScope s__law_alike) := ⟨rfl, rfl, rfl, by decide +kernel, rfl, by decide +kernel, by decide +kernel⟩
theorem sc_law : FnScope ["_law_script", "_law_whole_here", "_law_at", "_law_most", "_law_length", "_law_width", "_law_first", "_law_second", "_law_number_here", "_law_side", "_law_colours", "_law_colour", "_law_found", "_law_every"] ["_law_script"] (defScope s_law) := ⟨rfl, rfl, rfl, by decide +kernel, rfl, by decide +kernel, by decide +kernel⟩
/-- the built-ins that the text names are free -/
structure Bi (mg : Str → Option Value) : Prop where
  bool : mg "bool" = none
  int : mg "int" = none
  isinstance : mg "isinstance" = none
  len : mg "len" = none
  max : mg "max" = none
  min : mg "min" = none
  range : mg "range" = none
  set : mg "set" = none
  sum : mg "sum" = none
end BF

/-! ### small helpers for the laws: the script's cells, picks out of four, sizes of drawn numbers -/
namespace BF
open PySem PySem.Spec PyProof.Rows L2
inductive SpLaw (K : PySem.W.Frag) : Sp where
  | mk {a : Addr} {ns : List Int} {H : Hp} {Q : VK} {E : XK} (hl : ns.length ≤ 63) (hb : ∀ z ∈ ns, Builtin.Int.intBits z ≤ 1048576) (hS : SqL K H a (ns.map V.int)) (q : ∀ H', Q (.bl true) H') : SpLaw K [.ref a] H Q E
theorem bn_of_lt {x : Int} (h0 : 0 ≤ x) (h : x < 10 ^ 60) : Bn 200 x := by
  refine ⟨?_⟩
  have e : (10 : Int) ^ 60 = ((10 ^ 60 : Nat) : Int) := by decide
  have l : (10 : Nat) ^ 60 < 2 ^ 200 := by decide
  rw [e] at h
  omega
theorem sz_of_lt {x : Int} (h0 : 0 < x) (h : x < 10 ^ 60) : Sz x := ⟨h0, (bn_of_lt (by omega) h).mono (by decide)⟩
theorem cut_map {α β : Type} (f : α → β) (xs : List α) (lo hi : Nat) : ((xs.map f).drop lo).take hi = ((xs.drop lo).take hi).map f := by
  rw [← List.map_drop, ← List.map_take]
theorem cut_ints (ns : List Int) (lo hi : Option Int) : ∃ ms : List Int, cutV (ns.map V.int) lo hi = ms.map V.int := by
  unfold cutV
  exact ⟨_, cut_map V.int ns _ _⟩
theorem at_cell {ns : List Int} {k : Int} (h0 : -(ns.length : Int) ≤ k) (h1 : k < ns.length) : ∃ c, c ∈ ns ∧ atI (ns.map V.int) k = some (.int c) := by
  rcases Int.lt_or_le k 0 with hk | hk
  · have hj : (k + ns.length).toNat < ns.length := by omega
    refine ⟨ns[(k + ns.length).toNat], List.getElem_mem _, ?_⟩
    have e : ixN (ns.map V.int).length k = some (k + ns.length).toNat := by
      unfold ixN
      rw [List.length_map, if_neg (by omega), if_pos (by omega)]
    unfold atI
    rw [e]
    show (ns.map V.int)[(k + ns.length).toNat]? = _
    rw [List.getElem?_map, List.getElem?_eq_getElem hj]
    rfl
  · have hj : k.toNat < ns.length := by omega
    refine ⟨ns[k.toNat], List.getElem_mem _, ?_⟩
    obtain ⟨j, rfl⟩ := Int.eq_ofNat_of_zero_le hk
    refine atI_nat ?_
    rw [List.getElem?_map]
    have hj2 : j < ns.length := by omega
    rw [List.getElem?_eq_getElem hj2]
    rfl
theorem pick4 {x0 x1 x2 x3 : V} {k : Int} (h0 : 0 ≤ k) (h4 : k < 4) : ∃ v, atI [x0, x1, x2, x3] k = some v ∧ (v = x0 ∨ v = x1 ∨ v = x2 ∨ v = x3) := by
  have e : k = 0 ∨ k = 1 ∨ k = 2 ∨ k = 3 := by omega
  rcases e with rfl | rfl | rfl | rfl
  · exact ⟨x0, rfl, .inl rfl⟩
  · exact ⟨x1, rfl, .inr (.inl rfl)⟩
  · exact ⟨x2, rfl, .inr (.inr (.inl rfl))⟩
  · exact ⟨x3, rfl, .inr (.inr (.inr rfl))⟩
end BF

/-! short words for readings: walk_at "rd" takes all steps that are plain -/
local macro_rules | `(tactic| walk_at "bn") => `(tactic| first | with_reducible assumption | exact BF.Sz.bn (by with_reducible assumption) | exact BF.bnl (n := 80) (by decide) | exact BF.Bn.mod (by walk_at "bn") (by walk_at "ps") | exact BF.Bn.div (by walk_at "bn") (by walk_at "ps") | exact BF.Bn.mul (by walk_at "bn") (by walk_at "bn") | exact BF.Bn.add (by walk_at "bn") (by walk_at "bn") | exact BF.Bn.sub (by walk_at "bn") (by walk_at "bn"))
local macro_rules | `(tactic| walk_at "ps") => `(tactic| first | with_reducible assumption | decide | exact BF.Sz.pos (by with_reducible assumption) | omega)
local macro_rules | `(tactic| walk_at "sd") => `(tactic| first | with_reducible assumption | ((with_reducible show L2.CPow _ _); exact ⟨by decide, by decide, by decide⟩) | ((with_reducible show L2.CDivW _ _); first | exact BF.divOk_lit (by decide) (by decide) | exact BF.Bn.divOk (by walk_at "bn") (by walk_at "ps") (by decide) (by decide)) | ((with_reducible show L2.CMulX _ _); exact BF.Bn.mulOk (by walk_at "bn") (by walk_at "bn") (by decide)) | ((with_reducible show _ ≤ PySem.sizeLine); exact BF.size4 (by simp)) | ((with_reducible show (0 : Int) < _); walk_at "ps") | ((with_reducible show (_ : Int) ≤ _); omega) | ((with_reducible show (_ : Int) < _); omega))
local macro_rules | `(tactic| walk_at "rd1") => `(tactic| first | refine And.intro (by walk_at "sd") ?_ | refine ⟨_, rfl, ?_⟩ | refine And.intro rfl ?_ | refine ⟨_, _, rfl, rfl, ?_⟩ | refine ⟨_, _, rfl, ?_⟩ | refine ⟨_, _, _, rfl, ?_⟩)
local macro_rules | `(tactic| walk_at "rd") => `(tactic| repeat walk_at "rd1")

/-! ### sums.py -/
namespace BF
open PySem PySem.Spec PyProof.Rows L2
/-- is_number(x): x of the built-in type T -/
inductive SpIsNumber (K : PySem.W.Frag) : Sp where
  | mk {x : V} {T : String} {i b : Bool} {H : Hp} {Q : VK} {E : XK} (ty : TyX K H x (.type T)) (hi : kitB T "int" = some i) (hb : kitB T "bool" = some b) (q : Q (.bl (i && !b)) H) : SpIsNumber K [x] H Q E
theorem num_int {K : PySem.W.Frag} {H : Hp} {Q : VK} {E : XK} {n : Int} (q : Q (.bl true) H) : SpIsNumber K [.int n] H Q E := .mk (T := "int") (i := true) (b := false) (.base (.int n)) (by decide +kernel) (by decide +kernel) q
/-- check_sizes(some), all of them sizes -/
inductive SpCheckSizes (K : PySem.W.Frag) : Sp where
  | mk {a : Addr} {ns : List Int} {H : Hp} {Q : VK} {E : XK} (hS : SqL K H a (ns.map V.int)) (hp : ∀ n ∈ ns, 0 < n) (q : Q .non H) : SpCheckSizes K [.ref a] H Q E
section
variable {P : Program} {w : World} {K : PySem.W.Frag} {mg : Str → Option Value} {base : Heap}
theorem H_is_number (p : Pl K mg "is_number" s_is_number) (B : Bi mg) : Has P w K mg base CX0 1 "is_number" ["thing"] (SpIsNumber K) := by
  refine p.mk0 sc_is_number (fun _ _ _ _ _ _ us hl => match us, hl with | [_], _ => rfl) (fun vs H Q E h => ?_) (fun f cdv A outer s H vs Q E hr h => ?_)
  · cases h; rfl
  · obtain @⟨x, T, i, b, _, _, _, hT, hi, hb, q⟩ := h
    refine ⟨_, (pss_one (ps_ret (pe_and (pe_callB call_isi (by rfl) B.isinstance (by decide +kernel) (pa_cons (pv 0) (pa_cons (pe_bltn (v := .ty "int") (by rfl) B.int (by decide +kernel) rfl) pa_nil))) (pe_one (pe_not (pe_callB call_isi (by rfl) B.isinstance (by decide +kernel) (pa_cons (pv 0) (pa_cons (pe_bltn (v := .ty "bool") (by rfl) B.bool (by decide +kernel) rfl) pa_nil)))))))), ?_⟩
    refine ⟨_, rfl, x, _, _, _, i, rfl, .ty "int", hT, kit_ty hi, i, rfl, ?_⟩
    cases i with
    | false => exact iteF q
    | true => exact iteT ⟨_, rfl, x, _, _, _, b, rfl, .ty "bool", hT, kit_ty hb, b, rfl, q⟩
theorem ints_at {ns : List Int} {i : Nat} {y : V} (h : (ns.map V.int)[i]? = some y) : ∃ n, ns[i]? = some n ∧ y = .int n := by
  rw [List.getElem?_map] at h
  cases e : ns[i]? with
  | none => rw [e] at h; cases h
  | some n =>
    rw [e] at h
    exact ⟨n, rfl, (Option.some.inj h).symm⟩
theorem H_check_sizes (p : Pl K mg "check_sizes" s_check_sizes) (h_is_number : Has P w K mg base CX0 1 "is_number" ["thing"] (SpIsNumber K)) : Has P w K mg base CX0 2 "check_sizes" ["some"] (SpCheckSizes K) := by
  refine p.mk0 sc_check_sizes (fun _ _ _ _ _ _ us hl => match us, hl with | [_], _ => rfl) (fun vs H Q E h => ?_) (fun f cdv A outer s H vs Q E hr h => ?_)
  · cases h; rfl
  · obtain @⟨a, ns, _, _, _, hS, hp, q⟩ := h
    refine ⟨_, (pss_one (ps_for PassesOwn.never (by rfl) (pi_list (pv 0)) (pg_name (i := 1) sc_check_sizes.nd rfl (Or.inl rfl)) (pss_one (ps_if (PW.pt (pw_or (pt_not (pt_val (pe_fn h_is_number (hr.mono (by decide)) pass0 (pa_cons (pv 1) pa_nil)))) (pw_or1 (pt_cmpR op_lt (pv 1) pe_int (nomark _))))) (pss_one ps_never) pss_nil)))), ?_⟩
    refine ⟨_, rfl, a, rfl, ⟨_, hS⟩, for_list (K := K) (a := a) (xs := ns.map V.int) (fun i σ H' => H' = H ∧ ∃ y, σ = [some (.ref a), y]) ⟨rfl, none, rfl⟩ (fun i σ H' _ ⟨e, _⟩ => by rw [e]; exact hS) ?_ ?_⟩
    · rintro i y σ H' hi ⟨rfl, z, rfl⟩
      obtain ⟨n, hn, rfl⟩ := ints_at hi
      have h0 := hp n (List.mem_of_getElem? hn)
      refine ⟨_, rfl, num_int ⟨true, rfl, iteF ⟨_, rfl, _, _, rfl, rfl, _, rfl, ?_⟩⟩⟩
      rw [decide_eq_false (by omega)]
      exact iteF ⟨rfl, _, rfl⟩
    · rintro σ H' ⟨rfl, z, rfl⟩
      exact q
end
end BF

/-! ### stripes.py -/
namespace BF
open PySem PySem.Spec PyProof.Rows L2
theorem pairs_ifs (l h t : Int) : (if (if l - 1 < t then l - 1 else t) - (if t - h + 1 > 0 then t - h + 1 else 0) + 1 > 0 then (if l - 1 < t then l - 1 else t) - (if t - h + 1 > 0 then t - h + 1 else 0) + 1 else 0) = pairsI l h t := by
  unfold pairsI
  split <;> split <;> split <;> omega
inductive SpPairs : Sp where
  | mk {l h t : Int} {H : Hp} {Q : VK} {E : XK} (q : Q (.int (pairsI l h t)) H) : SpPairs [.int l, .int h, .int t] H Q E
inductive SpAlike : Sp where
  | mk {L W s c : Int} {H : Hp} {Q : VK} {E : XK} (hL : Sz L) (hW : Sz W) (hs : Sz s) (h0 : 0 ≤ c) (h1 : c < s) (q : ∀ H', Same H H' → Q (.int (alikeI L W s c)) H') : SpAlike [.int L, .int W, .int s, .int c] H Q E
section
variable {P : Program} {w : World} {K : PySem.W.Frag} {mg : Str → Option Value} {base : Heap}
theorem H_pairs_to (p : Pl K mg "pairs_to" s_pairs_to) (B : Bi mg) : Has P w K mg base CX0 1 "pairs_to" ["long", "high", "sum_wanted"] SpPairs := by
  refine p.mk0 sc_pairs_to (fun _ _ _ _ _ _ us hl => match us, hl with | [_, _, _], _ => rfl) (fun vs H Q E h => ?_) (fun f cdv A outer s H vs Q E hr h => ?_)
  · cases h; rfl
  · obtain @⟨l, hh, t, _, _, _, q⟩ := h
    refine ⟨_, (pss_one (ps_ret (pe_callB (call_max2 rfl) (by rfl) B.max (by decide +kernel) (pa_cons pe_int (pa_cons (pe_op op_add (pe_op op_sub (pe_callB (call_min2 rfl) (by rfl) B.min (by decide +kernel) (pa_cons (pv 2) (pa_cons (pe_op op_sub (pv 0) pe_int) pa_nil))) (pe_callB (call_max2 rfl) (by rfl) B.max (by decide +kernel) (pa_cons pe_int (pa_cons (pe_op op_add (pe_op op_sub (pv 2) (pv 1)) pe_int) pa_nil)))) pe_int) pa_nil))))), ?_⟩
    refine ⟨_, rfl, _, rfl, _, _, rfl, rfl, _, _, rfl, ?_⟩
    refine ⟨_, rfl, _, rfl, _, _, rfl, rfl, _, _, rfl, rfl, _, _, rfl, _, _, rfl, rfl, _, _, rfl, rfl, _, _, rfl, ?_⟩
    rw [← pairs_ifs l hh t] at q
    exact q
theorem H_alike (p : Pl K mg "alike" s_alike) (h_check_sizes : Has P w K mg base CX0 2 "check_sizes" ["some"] (SpCheckSizes K)) (h_is_number : Has P w K mg base CX0 1 "is_number" ["thing"] (SpIsNumber K))
    (h_pairs_to : Has P w K mg base CX0 1 "pairs_to" ["long", "high", "sum_wanted"] SpPairs) : Has P w K mg base CX0 3 "alike" ["length", "width", "size", "colour"] SpAlike := by
  refine p.mk0 sc_alike (fun _ _ _ _ _ _ us hl => match us, hl with | [_, _, _, _], _ => rfl) (fun vs H Q E h => ?_) (fun f cdv A outer s H vs Q E hr h => ?_)
  · cases h; rfl
  · obtain @⟨L, W, sz, c, _, _, _, hL, hW, hs, h0, h1, q⟩ := h
    refine ⟨_, (pss_cons (ps_expr (pe_fn h_check_sizes (hr.mono (by decide)) pass0 (pa_cons (pe_lst (pa_cons (pv 0) (pa_cons (pv 1) (pa_cons (pv 2) pa_nil)))) pa_nil)))
      (pss_cons (ps_if (PW.pt (pw_or (pt_not (pt_val (pe_fn h_is_number (hr.mono (by decide)) pass0 (pa_cons (pv 3) pa_nil)))) (pw_or1 (pt_not (pt_chain op_le op_lt pe_int (pv 3) (pv 2)))))) (pss_one ps_never) pss_nil)
      (pss_cons (ps_par (i := 4) (j := 5) (by rfl) sc_alike.nd rfl rfl (by decide) rfl rfl (pa_cons (pe_op op_mod (pv 0) (pv 2)) (pa_cons (pe_op op_mod (pv 1) (pv 2)) pa_nil)) (by rfl))
      (pss_cons (ps_set (i := 6) sc_alike.nd rfl (Or.inl rfl) (pe_op op_add (pe_op op_mulX (pe_op op_fdivW (pv 0) (pv 2)) (pv 1)) (pe_op op_mulX (pv 4) (pe_op op_fdivW (pv 1) (pv 2)))))
      (pss_one (ps_ret (pe_op op_add (pe_op op_add (pv 6) (pe_fn h_pairs_to (hr.mono (by decide)) pass0 (pa_cons (pv 4) (pa_cons (pv 5) (pa_cons (pv 3) pa_nil))))) (pe_fn h_pairs_to (hr.mono (by decide)) pass0 (pa_cons (pv 4) (pa_cons (pv 5) (pa_cons (pe_op op_add (pv 3) (pv 2)) pa_nil))))))))))), ?_⟩
    refine ⟨_, rfl, _, rfl, _, rfl, by show 3 ≤ sizeLine; decide, fun p hp => .mk (ns := [L, W, sz]) (sqL upd_same) ?_ ?_⟩
    · intro n hn
      have e : n = L ∨ n = W ∨ n = sz := by simpa using hn
      rcases e with rfl | rfl | rfl
      · exact hL.pos
      · exact hW.pos
      · exact hs.pos
    · have sm : Same H (upd H p (.lst ([L, W, sz].map V.int))) := same_upd hp
      refine ⟨_, rfl, num_int ⟨true, rfl, iteF ?_⟩⟩
      refine ⟨_, rfl, _, _, rfl, rfl, _, rfl, iteP h0 ⟨_, rfl, _, _, rfl, rfl, _, rfl, iteNP h1 ?_⟩⟩
      have p0 := hs.pos
      have m1 : Bn 2000 (L % sz) := hs.bn.mod p0
      have m2 : Bn 2000 (W % sz) := hs.bn.mod p0
      refine ⟨_, rfl, _, rfl, _, _, rfl, rfl, p0, _, rfl, _, rfl, _, _, rfl, rfl, p0, _, _, rfl, ?_⟩
      refine ⟨_, rfl, _, rfl, _, _, rfl, rfl, hs.bn.divOk p0 (by decide) (by decide), _, rfl, _, _, rfl, rfl, (hL.bn.div p0).mulOk hW.bn (by decide), ?_⟩
      refine ⟨_, rfl, _, rfl, _, rfl, _, _, rfl, rfl, hs.bn.divOk p0 (by decide) (by decide), _, _, rfl, rfl, m1.mulOk (hW.bn.div p0) (by decide), _, _, rfl, rfl, ?_⟩
      refine ⟨_, rfl, _, rfl, _, rfl, _, rfl, .mk ⟨_, _, rfl, rfl, ?_⟩⟩
      exact ⟨_, rfl, _, rfl, _, rfl, _, rfl, _, _, rfl, rfl, .mk ⟨_, _, rfl, rfl, q _ sm⟩⟩
end
end BF

/-! ### the laws' own helpers: a drawn number, the fewest -/
namespace BF
open PySem PySem.Spec PyProof.Rows L2
/-- some number -/
inductive SpNumber : Sp where
  | mk {cell at_ whole : Int} {H : Hp} {Q : VK} {E : XK} (hc : Bn 1048577 cell) (ha : Bn 10 at_) (q : ∀ n, Q (.int n) H) : SpNumber [.int cell, .int at_, .int whole] H Q E
section
variable {P : Program} {w : World} {K : PySem.W.Frag} {mg : Str → Option Value} {base : Heap}
theorem H__law_number (p : Pl K mg "_law_number" s__law_number) : Has P w K mg base CX0 1 "_law_number" ["_law_cell", "_law_at", "_law_whole_here"] SpNumber := by
  refine p.mk0 sc__law_number (fun _ _ _ _ _ _ us hl => match us, hl with | [_, _, _], _ => rfl) (fun vs H Q E h => ?_) (fun f cdv A outer s H vs Q E hr h => ?_)
  · cases h; rfl
  · obtain @⟨cell, at_, whole, _, _, _, hc, ha, q⟩ := h
    refine ⟨_, (pss_cons (ps_if (pt_cmpR op_ge (pv 0) (pe_op op_pow pe_int pe_int) (nomark _)) (pss_one (ps_ret (pv 0))) pss_nil)
      (pss_cons (ps_set (i := 3) sc__law_number.nd rfl (Or.inl rfl) (pe_op op_mod (pe_op op_add (pe_op op_mulX (pe_op op_add (pv 0) (pe_op op_mulX pe_int (pv 1))) pe_int) (pv 2)) pe_int))
      (pss_cons (ps_set (i := 4) sc__law_number.nd rfl (Or.inl rfl) (pe_op op_mulX (pe_op op_mulX (pv 3) (pe_op op_add (pe_op op_add (pv 3) (pe_op op_mulX pe_int (pv 1))) pe_int)) (pe_op op_add (pe_op op_add (pv 3) (pv 0)) pe_int)))
      (pss_one (ps_ret (pe_op op_fdivW (pe_op op_mulX (pv 4) (pe_op op_add (pv 4) pe_int)) pe_int)))))), ?_⟩
    refine ⟨_, rfl, _, _, rfl, rfl, ⟨by decide, by decide, by decide⟩, _, _, rfl, rfl, _, rfl, iteD (fun _ => ⟨_, rfl, q _⟩) (fun _ => ?_)⟩
    have b1 : Bn 20 (977 * at_) := ((bnl (n := 10) (x := 977) (by decide)).mul ha).mono (by decide)
    have b2 : Bn 1048598 (cell + 977 * at_) := (hc.add b1).mono (by decide)
    refine ⟨_, rfl, _, rfl, _, _, rfl, rfl, (bnl (n := 10) (by decide)).mulOk ha (by decide), _, _, rfl, rfl, _, _, rfl, rfl, b2.mulOk (bnl (n := 16) (by decide)) (by decide), _, rfl, _, _, rfl, rfl, _, _, rfl, rfl, by show (0 : Int) < 2147483647; decide, ?_⟩
    dsimp only
    generalize hm : ((cell + 977 * at_) * 48271 + whole) % 2147483647 = m
    have b3 : Bn 31 m := by
      rw [← hm]
      exact Bn.mod (bnl (by decide)) (by decide)
    have b4 : Bn 17 (31 * at_) := ((bnl (n := 5) (x := 31) (by decide)).mul ha).mono (by decide)
    have b5 : Bn 60 (m + 31 * at_ + 7) := ((b3.add b4).add (bnl (n := 3) (x := 7) (by decide))).mono (by decide)
    have b6 : Bn 1048700 (m + cell + 5) := ((b3.add hc).add (bnl (n := 3) (x := 5) (by decide))).mono (by decide)
    have b7 : Bn 91 (m * (m + 31 * at_ + 7)) := (b3.mul b5).mono (by decide)
    refine ⟨_, rfl, _, rfl, _, rfl, _, _, rfl, rfl, (bnl (n := 5) (by decide)).mulOk ha (by decide), _, _, rfl, rfl, _, _, rfl, rfl, _, _, rfl, rfl, b3.mulOk b5 (by decide), _, rfl, _, rfl, _, _, rfl, rfl, _, _, rfl, rfl, _, _, rfl, rfl, b7.mulOk b6 (by decide), ?_⟩
    have b8 : Bn 1048791 (m * (m + 31 * at_ + 7) * (m + cell + 5)) := (b7.mul b6).mono (by decide)
    dsimp only
    generalize m * (m + 31 * at_ + 7) * (m + cell + 5) = x at b8 ⊢
    have b9 : Bn 1048900 (x + 48271) := (b8.add (bnl (n := 16) (x := 48271) (by decide))).mono (by decide)
    exact ⟨_, rfl, _, rfl, _, _, rfl, rfl, _, _, rfl, rfl, b8.mulOk b9 (by decide), _, _, rfl, rfl, divOk_lit (by decide) (by decide), q _⟩
theorem H__law_whole (p : Pl K mg "_law_whole" s__law_whole) (B : Bi mg) : Has P w K mg base CX0 1 "_law_whole" ["_law_found"] (SpIsNumber K) := by
  refine p.mk0 sc__law_whole (fun _ _ _ _ _ _ us hl => match us, hl with | [_], _ => rfl) (fun vs H Q E h => ?_) (fun f cdv A outer s H vs Q E hr h => ?_)
  · cases h; rfl
  · obtain @⟨x, T, i, b, _, _, _, hT, hi, hb, q⟩ := h
    refine ⟨_, (pss_one (ps_ret (pe_and (pe_callB call_isi (by rfl) B.isinstance (by decide +kernel) (pa_cons (pv 0) (pa_cons (pe_bltn (v := .ty "int") (by rfl) B.int (by decide +kernel) rfl) pa_nil))) (pe_one (pe_not (pe_callB call_isi (by rfl) B.isinstance (by decide +kernel) (pa_cons (pv 0) (pa_cons (pe_bltn (v := .ty "bool") (by rfl) B.bool (by decide +kernel) rfl) pa_nil)))))))), ?_⟩
    refine ⟨_, rfl, x, _, _, _, i, rfl, .ty "int", hT, kit_ty hi, i, rfl, ?_⟩
    cases i with
    | false => exact iteF q
    | true => exact iteT ⟨_, rfl, x, _, _, _, b, rfl, .ty "bool", hT, kit_ty hb, b, rfl, q⟩
end
end BF

/-! ### a drawn floor and brick -/
namespace BF
open PySem PySem.Spec PyProof.Rows L2
/-- a drawn size -/
structure Sd (x : Int) : Prop where
  pos : 0 < x
  lt : x < 10 ^ 60
theorem Sd.sz {x : Int} (h : Sd x) : Sz x := sz_of_lt h.pos h.lt
theorem Sd.bn {x : Int} (h : Sd x) : Bn 200 x := bn_of_lt (Int.le_of_lt h.pos) h.lt
inductive SpFour (K : PySem.W.Frag) : Sp where
  | mk {a : Addr} {ns : List Int} {at_ most : Int} {H : Hp} {Q : VK} {E : XK} (hb : ∀ z ∈ ns, Builtin.Int.intBits z ≤ 1048576) (hl : ns.length ≤ 63) (hS : SqL K H a (ns.map V.int)) (h0 : 0 ≤ at_) (h1 : at_ < ns.length) (m1 : 0 < most) (m2 : most ≤ 10 ^ 20)
      (q : ∀ L W f s p H', Sd L → Sd W → Sd f → Sd s → Same H H' → H' p = some (.tup [.int L, .int W, .int f, .int s]) → Q (.ref p) H') : SpFour K [.ref a, .int at_, .int most] H Q E
/-- what is between -/
structure Md (b x : Int) : Prop where
  lo : -b ≤ x
  hi : x ≤ b
theorem Md.wide {x : Int} (h : Md (10 ^ 50) x) : Md (10 ^ 51) x := ⟨by have := h.lo; omega, by have := h.hi; omega⟩
theorem mul_in {x y A B : Int} (hx : 0 ≤ x) (ha : x ≤ A) (hy : 0 ≤ y) (hb : y ≤ B) : 0 ≤ x * y ∧ x * y ≤ A * B :=
  ⟨Int.mul_nonneg hx hy, Int.le_trans (Int.mul_le_mul_of_nonneg_left hb hx) (Int.mul_le_mul_of_nonneg_right ha (Int.le_trans hy hb))⟩
inductive FourI (b : Int) (a : Addr) (at_ most wh num oth : Int) (H : Hp) : L2.St → Hp → Prop where
  | mk {H' : Hp} {f s fe mo le ki L W : Int} (sm : Same H H') (hf : 0 < f ∧ f ≤ 10 ^ 20) (hs : 0 < s ∧ s ≤ 10 ^ 20) (hfe : 0 < fe ∧ fe ≤ 5) (hmo : 0 ≤ mo ∧ mo ≤ 3) (hle : 0 < le ∧ le ≤ 3) (hL : Md b L) (hW : Md b W) :
    FourI b a at_ most wh num oth H [some (.ref a), some (.int at_), some (.int most), some (.int wh), some (.int num), some (.int oth), some (.int f), some (.int s), some (.int fe), some (.int mo), some (.int le), some (.int ki), some (.int L), some (.int W)] H'
section
variable {P : Program} {w : World} {K : PySem.W.Frag} {mg : Str → Option Value} {base : Heap}
theorem H__law_four (p : Pl K mg "_law_four" s__law_four) (B : Bi mg) (h__law_number : Has P w K mg base CX0 1 "_law_number" ["_law_cell", "_law_at", "_law_whole_here"] SpNumber) :
    Has P w K mg base CX0 2 "_law_four" ["_law_script", "_law_at", "_law_most"] (SpFour K) := by
  refine p.mk0 sc__law_four (fun _ _ _ _ _ _ us hl => match us, hl with | [_, _, _], _ => rfl) (fun vs H Q E h => ?_) (fun f cdv A outer s H vs Q E hr h => ?_)
  · cases h; rfl
  · obtain @⟨a, ns, at_, most, _, _, _, hbits, hl, hS, h0, h1, m1, m2, q⟩ := h
    refine ⟨_, (pss_cons (ps_set (i := 3) sc__law_four.nd rfl (Or.inl rfl) (pe_callB (cr_sum rfl) (by rfl) B.sum (by decide +kernel) (pa_cons (pe_slice sl_list (pv 0) po_none (po_some pe_int)) pa_nil)))
      (pss_cons (ps_set (i := 4) sc__law_four.nd rfl (Or.inl rfl) (pe_fn h__law_number (hr.mono (by decide)) pass0 (pa_cons (pe_ix ix_list (pv 0) (pv 1) (fun _ _ => rfl)) (pa_cons (pv 1) (pa_cons (pv 3) pa_nil)))))
      (pss_cons (ps_set (i := 5) sc__law_four.nd rfl (Or.inl rfl) (pe_fn h__law_number (hr.mono (by decide)) pass0 (pa_cons (pe_ix ix_list (pv 0) (pe_op op_sub (pv 1) pe_int) (fun _ _ => rfl)) (pa_cons (pe_op op_add (pv 1) pe_int) (pa_cons (pv 3) pa_nil)))))
      (pss_cons (ps_par (i := 6) (j := 7) (by rfl) sc__law_four.nd rfl rfl (by decide) rfl rfl (pa_cons (pe_op op_add pe_int (pe_op op_mod (pe_op op_fdivW (pv 4) pe_int) (pv 2))) (pa_cons (pe_op op_add pe_int (pe_op op_mod (pe_op op_fdivW (pe_op op_fdivW (pv 4) pe_int) (pv 2)) (pv 2))) pa_nil)) (by rfl))
      (pss_cons (ps_par3 (i := 8) (j := 9) (l := 10) (by rfl) sc__law_four.nd rfl rfl rfl (by decide) (by decide) (by decide) rfl rfl rfl (pa_cons (pe_op op_add pe_int (pe_op op_mod (pv 5) pe_int)) (pa_cons (pe_op op_mod (pe_op op_fdivW (pv 5) pe_int) pe_int) (pa_cons (pe_op op_add pe_int (pe_op op_mod (pe_op op_fdivW (pv 5) pe_int) pe_int)) pa_nil))) (by rfl))
      (pss_cons (ps_set (i := 11) sc__law_four.nd rfl (Or.inl rfl) (pe_op op_mod (pe_op op_add (pv 4) (pe_op op_fdivW (pv 5) pe_int)) pe_int))
      (pss_cons (ps_par (i := 12) (j := 13) (by rfl) sc__law_four.nd rfl rfl (by decide) rfl rfl (pa_cons (pe_op op_mulX (pv 6) (pv 8)) (pa_cons (pe_op op_mulX (pv 7) (pv 10)) pa_nil)) (by rfl))
      (Evl.pss_cut (ps_if (pt_cmpR op_in_seq (pv 11) (pe_lst (pa_cons pe_int (pa_cons pe_int (pa_cons pe_int pa_nil)))) (by rfl)) (pss_cons (ps_set (i := 12) sc__law_four.nd rfl (Or.inl rfl) (pe_op op_mulX (pe_op op_mulX (pv 6) (pv 7)) (pv 10)))
      (pss_one (ps_set (i := 13) sc__law_four.nd rfl (Or.inl rfl) (pe_op op_add (pe_op op_mulX (pv 6) (pv 8)) (pe_op op_mulX (pv 7) (pv 9)))))) pss_nil)
      (Evl.pss_cut (ps_if (pt_cmpR op_eq (pv 11) pe_int (nomark _)) (pss_one (ps_set (i := 13) sc__law_four.nd rfl (Or.inl rfl) (pe_op op_sub (pe_op op_add (pv 13) pe_int) (pe_op op_mod (pe_op op_fdivW (pv 5) pe_int) pe_int)))) pss_nil)
      (Evl.pss_cut (ps_if (pt_cmpR op_eq (pv 11) pe_int (nomark _)) (pss_one (ps_par (i := 12) (j := 13) (by rfl) sc__law_four.nd rfl rfl (by decide) rfl rfl (pa_cons (pe_op op_add pe_int (pe_op op_mod (pe_op op_fdivW (pv 4) pe_int) (pe_op op_mulX pe_int (pv 2)))) (pa_cons (pe_op op_add pe_int (pe_op op_mod (pe_op op_fdivW (pv 5) pe_int) (pe_op op_mulX pe_int (pv 2)))) pa_nil)) (by rfl))) pss_nil)
      (Evl.pss_cut (ps_if (pt_cmpR op_eq (pv 11) pe_int (nomark _)) (pss_one (ps_par (i := 12) (j := 13) (by rfl) sc__law_four.nd rfl rfl (by decide) rfl rfl (pa_cons (pe_op op_mulX (pv 6) (pv 8)) (pa_cons (pe_op op_add (pe_op op_mulX (pv 6) (pv 10)) (pv 9)) pa_nil)) (by rfl))) pss_nil)
      (Evl.pss_cut (ps_if (pt_cmpR op_eq (pe_op op_mod (pe_op op_add (pe_op op_fdivW (pv 4) pe_int) (pv 1)) pe_int) pe_int (nomark _)) (pss_one (ps_par (i := 12) (j := 13) (by rfl) sc__law_four.nd rfl rfl (by decide) rfl rfl (pa_cons (pv 13) (pa_cons (pv 12) pa_nil)) (by rfl))) pss_nil)
      (pss_one (ps_ret (pe_tup (pa_cons (pe_callB (call_max2 rfl) (by rfl) B.max (by decide +kernel) (pa_cons pe_int (pa_cons (pv 12) pa_nil))) (pa_cons (pe_callB (call_max2 rfl) (by rfl) B.max (by decide +kernel) (pa_cons pe_int (pa_cons (pv 13) pa_nil))) (pa_cons (pv 6) (pa_cons (pv 7) pa_nil))))))))))))))))))), ?_⟩
    have bmo : Bn 200 most := bn_of_lt (by omega) (by omega)
    obtain ⟨ms, ems⟩ := cut_ints ns none (some 63)
    refine ⟨_, rfl, 63, rfl, a, _, rfl, hS, fun p1 hp1 => ⟨p1, ms, rfl, sqL (by rw [← ems]; exact upd_same), ?_⟩⟩
    have sm1 : Same H (upd H p1 (.lst (cutV (ns.map V.int) none (some 63)))) := same_upd hp1
    generalize upd H p1 (.lst (cutV (ns.map V.int) none (some 63))) = H1 at sm1 ⊢
    generalize hwh : ms.sum = wh
    obtain ⟨c1, hc1, ec1⟩ := at_cell (ns := ns) (k := at_) (by omega) (by omega)
    refine ⟨_, rfl, _, rfl, a, _, _, _, rfl, rfl, sm1.seq hS, ec1, _, rfl, _, rfl, .mk (bn_bits (hbits _ hc1)) (bnl (n := 10) (by omega)) fun num => ?_⟩
    obtain ⟨c2, hc2, ec2⟩ := at_cell (ns := ns) (k := at_ - 1) (by omega) (by omega)
    refine ⟨_, rfl, _, rfl, _, _, rfl, rfl, a, _, _, _, rfl, rfl, sm1.seq hS, ec2, _, rfl, _, _, rfl, rfl, _, rfl, .mk (bn_bits (hbits _ hc2)) (bnl (n := 10) (by omega)) fun oth => ?_⟩
    have n1 : 0 ≤ num / 7 % most ∧ num / 7 % most < most := ⟨Int.emod_nonneg _ (by omega), Int.emod_lt_of_pos _ m1⟩
    have n2 : 0 ≤ num / 7 / most % most ∧ num / 7 / most % most < most := ⟨Int.emod_nonneg _ (by omega), Int.emod_lt_of_pos _ m1⟩
    walk_at "rd"
    refine enter (FourI (10 ^ 50) a at_ most wh num oth H) ?_ ?_
    · refine .mk sm1 ⟨by omega, by omega⟩ ⟨by omega, by omega⟩ ⟨by omega, by omega⟩ ⟨by omega, by omega⟩ ⟨by omega, by omega⟩ ?_ ?_
      · have := mul_in (A := 10 ^ 20) (B := 5) (x := 1 + num / 7 % most) (y := 1 + oth % 5) (by omega) (by omega) (by omega) (by omega)
        exact ⟨by omega, by omega⟩
      · have := mul_in (A := 10 ^ 20) (B := 3) (x := 1 + num / 7 / most % most) (y := 1 + oth / 20 % 3) (by omega) (by omega) (by omega) (by omega)
        exact ⟨by omega, by omega⟩
    rintro _ _ @⟨H2, f, s, fe, mo, le, ki, L, W, sm2, hf, hs, hfe, hmo, hle, hL, hW⟩
    have bf : Bn 200 f := bn_of_lt (by omega) (by omega)
    have bs : Bn 200 s := bn_of_lt (by omega) (by omega)
    have bfe : Bn 200 fe := bn_of_lt (by omega) (by omega)
    have bmo' : Bn 200 mo := bn_of_lt (by omega) (by omega)
    have ble : Bn 200 le := bn_of_lt (by omega) (by omega)
    -- sides that go in, sums
    refine ⟨FourI (10 ^ 50) a at_ most wh num oth H, ?_, ?_⟩
    · walk_at "rd"
      refine fun pl hpl => ⟨pl, _, rfl, .inl (sqL upd_same), rfl, rfl, _, rfl, iteB (fun c => ?_) (fun c => ?_)⟩
      · walk_at "rd"
        have k1 := mul_in (A := 10 ^ 20) (B := 10 ^ 20) (x := f) (y := s) (by omega) (by omega) (by omega) (by omega)
        have k2 := mul_in (A := 10 ^ 40) (B := 3) (x := f * s) (y := le) (by omega) (by omega) (by omega) (by omega)
        have k3 := mul_in (A := 10 ^ 20) (B := 5) (x := f) (y := fe) (by omega) (by omega) (by omega) (by omega)
        have k4 := mul_in (A := 10 ^ 20) (B := 3) (x := s) (y := mo) (by omega) (by omega) (by omega) (by omega)
        exact .mk (sm2.trans (same_upd hpl)) hf hs hfe hmo hle ⟨by omega, by omega⟩ ⟨by omega, by omega⟩
      · exact .mk (sm2.trans (same_upd hpl)) hf hs hfe hmo hle hL hW
    · clear sm2 hf hs hfe hmo hle hL hW bf bs bfe bmo' ble
      rintro _ _ @⟨H2, f, s, fe, mo, le, ki, L, W, sm2, hf, hs, hfe, hmo, hle, hL, hW⟩
      refine ⟨FourI (10 ^ 51) a at_ most wh num oth H, ?_, ?_⟩
      · walk_at "rd"
        refine iteEq (fun c => ?_) (fun c => ?_)
        · walk_at "rd"
          exact .mk sm2 hf hs hfe hmo hle hL.wide ⟨by have := hW.lo; omega, by have := hW.hi; omega⟩
        · exact .mk sm2 hf hs hfe hmo hle hL.wide hW.wide
      · clear sm2 hf hs hfe hmo hle hL hW
        rintro _ _ @⟨H2, f, s, fe, mo, le, ki, L, W, sm2, hf, hs, hfe, hmo, hle, hL, hW⟩
        refine ⟨FourI (10 ^ 51) a at_ most wh num oth H, ?_, ?_⟩
        · walk_at "rd"
          refine iteEq (fun c => ?_) (fun c => ?_)
          · have q1 : 0 ≤ num / 11 % (3 * most) ∧ num / 11 % (3 * most) < 3 * most := ⟨Int.emod_nonneg _ (by omega), Int.emod_lt_of_pos _ (by omega)⟩
            have q2 : 0 ≤ oth / 3 % (3 * most) ∧ oth / 3 % (3 * most) < 3 * most := ⟨Int.emod_nonneg _ (by omega), Int.emod_lt_of_pos _ (by omega)⟩
            walk_at "rd"
            exact .mk sm2 hf hs hfe hmo hle ⟨by omega, by omega⟩ ⟨by omega, by omega⟩
          · exact .mk sm2 hf hs hfe hmo hle hL hW
        · clear sm2 hf hs hfe hmo hle hL hW
          rintro _ _ @⟨H2, f, s, fe, mo, le, ki, L, W, sm2, hf, hs, hfe, hmo, hle, hL, hW⟩
          have bf : Bn 200 f := bn_of_lt (by omega) (by omega)
          have bfe : Bn 200 fe := bn_of_lt (by omega) (by omega)
          have ble : Bn 200 le := bn_of_lt (by omega) (by omega)
          refine ⟨FourI (10 ^ 51) a at_ most wh num oth H, ?_, ?_⟩
          · walk_at "rd"
            refine iteEq (fun c => ?_) (fun c => ?_)
            · have k3 := mul_in (A := 10 ^ 20) (B := 5) (x := f) (y := fe) (by omega) (by omega) (by omega) (by omega)
              have k4 := mul_in (A := 10 ^ 20) (B := 3) (x := f) (y := le) (by omega) (by omega) (by omega) (by omega)
              walk_at "rd"
              exact .mk sm2 hf hs hfe hmo hle ⟨by omega, by omega⟩ ⟨by omega, by omega⟩
            · exact .mk sm2 hf hs hfe hmo hle hL hW
          · clear sm2 hf hs hfe hmo hle hL hW bf bfe ble
            rintro _ _ @⟨H2, f, s, fe, mo, le, ki, L, W, sm2, hf, hs, hfe, hmo, hle, hL, hW⟩
            refine ⟨FourI (10 ^ 51) a at_ most wh num oth H, ?_, ?_⟩
            · walk_at "rd"
              refine iteEq (fun c => ?_) (fun c => ?_)
              · walk_at "rd"
                exact .mk sm2 hf hs hfe hmo hle hW hL
              · exact .mk sm2 hf hs hfe hmo hle hL hW
            · clear sm2 hf hs hfe hmo hle hL hW
              rintro _ _ @⟨H2, f, s, fe, mo, le, ki, L, W, sm2, hf, hs, hfe, hmo, hle, hL, hW⟩
              walk_at "rd"
              have mx : ∀ x : Int, Md (10 ^ 51) x → Sd (if x > 1 then x else 1) := fun x hx => by
                have := hx.hi
                split
                · exact ⟨by omega, by omega⟩
                · exact ⟨by omega, by omega⟩
              exact fun p hp => q _ _ _ _ p _ (mx L hL) (mx W hW) ⟨by omega, by omega⟩ ⟨by omega, by omega⟩ (sm2.trans (same_upd hp)) upd_same
end
end BF

/-! ### the law k04: its own count -/
namespace BF
open PySem PySem.Spec PyProof.Rows L2
def upsV (c s l : Int) (n : Nat) : List V := ((List.range n).filter (fun u : Nat => decide ((c - (u : Int)) % s < l))).map (fun u : Nat => V.int (u : Int))
theorem ups_len (c s l : Int) (n : Nat) : ((upsV c s l n).length : Int) = cntI c s l n := by
  unfold upsV cntI
  rw [List.length_map]
theorem ups_le (c s l : Int) (n : Nat) : (upsV c s l n).length ≤ n := by
  unfold upsV
  rw [List.length_map]
  have h := List.length_filter_le (fun u : Nat => decide ((c - (u : Int)) % s < l)) (List.range n)
  rw [List.length_range] at h
  exact h
theorem ups_succ (c s l : Int) (n : Nat) : upsV c s l (n + 1) = upsV c s l n ++ if (c - (n : Int)) % s < l then [V.int (n : Int)] else [] := by
  unfold upsV
  rw [List.range_succ, List.filter_append, List.map_append]
  by_cases h : (c - (n : Int)) % s < l
  · rw [if_pos h]
    simp [List.filter_cons, h]
  · rw [if_neg h]
    simp [List.filter_cons, h]
theorem pairs_ifs2 (l h t : Int) : (if (if t < l - 1 then t else l - 1) - (if t - h + 1 > 0 then t - h + 1 else 0) + 1 > 0 then (if t < l - 1 then t else l - 1) - (if t - h + 1 > 0 then t - h + 1 else 0) + 1 else 0) = pairsI l h t := by
  unfold pairsI
  split <;> split <;> split <;> omega
/-- what the loop has found behind i turns -/
def roundI (b l h c s : Int) : Nat → Int
  | 0 => b
  | 1 => b + pairsI h l c
  | _ => b + pairsI h l c + pairsI h l (c + s)
section
variable {P : Program} {w : World} {K : PySem.W.Frag} {mg : Str → Option Value} {base : Heap}
theorem H__law_alike (p : Pl K mg "_law_alike" s__law_alike) (B : Bi mg) : Has P w K mg base CX0 1 "_law_alike" ["_law_length", "_law_width", "_law_size", "_law_colour"] SpAlike := by
  refine p.mk0 sc__law_alike (fun _ _ _ _ _ _ us hl => match us, hl with | [_, _, _, _], _ => rfl) (fun vs H Q E h => ?_) (fun f cdv A outer s H vs Q E hr h => ?_)
  · cases h; rfl
  · obtain @⟨L, W, sz, c, _, _, _, hL, hW, hs, h0, h1, q⟩ := h
    refine ⟨_, (pss_cons (ps_asg (pe_tup (pa_cons (pe_op op_mod (pv 0) (pv 2)) (pa_cons (pe_op op_mulX (pe_op op_fdivW (pv 0) (pv 2)) (pv 1)) pa_nil))) (pg_tup (by rfl) (pgs_cons (pg_name (i := 4) sc__law_alike.nd rfl (Or.inr rfl)) (pgs_cons (pg_name (i := 5) sc__law_alike.nd rfl (Or.inl rfl)) pgs_nil))))
      (pss_cons (ps_if (pt_cmpR op_lt (pv 1) pe_int (nomark _)) (pss_one (ps_ret (pe_op op_add (pv 5) (pe_callB call_len_seq (by rfl) B.len PySem.boot_len (pa_cons (pe_lc (own := [("_law_up", 8)]) (by rfl) sc__law_alike.nd (pi_range1 (by rfl) B.range (pa_cons (pv 1) pa_nil)) (blkOk_by (own := [("_law_up", 8)]) (N := ["_law_length", "_law_width", "_law_size", "_law_colour", "_law_long", "_law_found", "_law_high", "_law_turn", "_law_up"]) (sc := defScope s__law_alike) (by decide +kernel)) (fun _ _ _ _ _ => (pg_name (i := 8) sc__law_alike.nd rfl (Or.inl rfl))) (fun _ _ _ _ _ => pts_one (pt_cmpR op_lt (pe_op op_mod (pe_op op_sub (pv 3) (pv 8)) (pv 2)) (pv 4) (nomark _))) (fun _ _ _ _ _ => (pv 8))) pa_nil))))) pss_nil)
      (pss_cons (ps_par (i := 5) (j := 6) (by rfl) sc__law_alike.nd rfl rfl (by decide) rfl rfl (pa_cons (pe_op op_add (pv 5) (pe_op op_mulX (pe_op op_fdivW (pv 1) (pv 2)) (pv 4))) (pa_cons (pe_op op_mod (pv 1) (pv 2)) pa_nil)) (by rfl))
      (pss_cons (ps_for PassesOwn.never (by rfl) (pi_list (pe_lst (pa_cons (pv 3) (pa_cons (pe_op op_add (pv 3) (pv 2)) pa_nil)))) (pg_name (i := 7) sc__law_alike.nd rfl (Or.inl rfl)) (pss_one (ps_set (i := 5) sc__law_alike.nd rfl (Or.inl rfl) (pe_op op_add (pv 5) (pe_callB (call_max2 rfl) (by rfl) B.max (by decide +kernel) (pa_cons pe_int (pa_cons (pe_op op_add (pe_op op_sub (pe_callB (call_min2 rfl) (by rfl) B.min (by decide +kernel) (pa_cons (pe_op op_sub (pv 6) pe_int) (pa_cons (pv 7) pa_nil))) (pe_callB (call_max2 rfl) (by rfl) B.max (by decide +kernel) (pa_cons pe_int (pa_cons (pe_op op_add (pe_op op_sub (pv 7) (pv 4)) pe_int) pa_nil)))) pe_int) pa_nil)))))))
      (pss_one (ps_ret (pv 5))))))), ?_⟩
    have p0 := hs.pos
    walk_at "rd"
    refine fun t0 ht0 => ⟨t0, _, rfl, sqT upd_same, rfl, _, _, rfl, _, _, rfl, rfl, ?_⟩
    have sm0 := same_upd (o := .tup [.int (L % sz), .int (L / sz * W)]) ht0
    generalize upd H t0 _ = H1 at sm0 ⊢
    walk_at "rd"
    refine iteD (fun c1 => ?_) (fun c1 => ?_)
    · obtain ⟨n, rfl⟩ := Int.eq_ofNat_of_zero_le (Int.le_of_lt hW.pos)
      have c1 : (n : Int) < 40 := c1
      refine ⟨_, rfl, _, rfl, n, rfl, by show -(2 ^ 62) ≤ (n : Int); omega, by show (n : Int) < 2 ^ 62; omega, ?_⟩
      refine fun D hD => lc_range (lo := 0) (n := n) (fun i H' => Same H1 H' ∧ H' D = some (.lst (upsV c sz (L % sz) i))) ⟨same_upd hD, upd_same⟩ ?_ ?_
      · rintro i H' hi ⟨sm, eD⟩
        have e0 : (0 : Int) + (i : Int) = i := by omega
        walk_at "rd"
        rw [e0]
        refine iteD (fun z => ?_) (fun z => ?_)
        · have z : (c - (i : Int)) % sz < L % sz := z
          refine ⟨_, rfl, _, eD, ?_, ?_, ?_⟩
          · exact Nat.lt_of_le_of_lt (ups_le _ _ _ _) (Nat.lt_of_lt_of_le hi (size4 (by omega)))
          · exact fun b1 o e => by rw [upd_ne (ne_of_none e hD)]; exact sm b1 o e
          · rw [upd_same, ups_succ, if_pos z]
        · have z : ¬ (c - (i : Int)) % sz < L % sz := z
          rw [ups_succ, if_neg z, List.append_nil]
          exact ⟨sm, eD⟩
      · rintro H' ⟨sm, eD⟩
        refine ⟨D, _, rfl, .inl (sqL eD), _, _, rfl, rfl, ?_⟩
        dsimp only
        rw [ups_len, law_alike_few h0 h1]
        exact q _ (sm0.trans sm)
    · walk_at "rd"
      refine fun ll hll => ?_
      generalize hH2 : upd H1 ll _ = H2
      obtain ⟨sm1, hl1⟩ : Same H1 H2 ∧ H2 ll = some (.lst ([c, c + sz].map V.int)) := newH hH2 hll
      refine ⟨ll, rfl, ⟨_, sqL hl1⟩, for_list (K := K) (a := ll) (xs := [c, c + sz].map V.int) (fun i σ H' => H' = H2 ∧ ∃ y, σ = [some (.int L), some (.int W), some (.int sz), some (.int c), some (.int (L % sz)), some (.int (roundI (L / sz * W + W / sz * (L % sz)) (L % sz) (W % sz) c sz i)), some (.int (W % sz)), y, none])
        ⟨rfl, none, rfl⟩ (fun i σ H' _ ⟨e, _⟩ => by rw [e]; exact sqL hl1) ?_ ?_⟩
      · rintro i y σ H' hi ⟨rfl, z, rfl⟩
        obtain ⟨t, ht, rfl⟩ := ints_at hi
        walk_at "rd"
        refine ⟨some (.int t), ?_⟩
        show [some (V.int L), some (.int W), some (.int sz), some (.int c), some (.int (L % sz)), some (.int (roundI (L / sz * W + W / sz * (L % sz)) (L % sz) (W % sz) c sz i + _)), some (.int (W % sz)), some (.int t), none] = _
        rw [pairs_ifs2]
        match i, ht with
        | 0, ht => cases ht; rfl
        | 1, ht => cases ht; rfl
        | n + 2, ht => cases ht
      · rintro σ H' ⟨rfl, z, rfl⟩
        have e1 := Int.emod_nonneg L (Int.ne_of_gt p0)
        have e2 := Int.emod_nonneg W (Int.ne_of_gt p0)
        have e : roundI (L / sz * W + W / sz * (L % sz)) (L % sz) (W % sz) c sz 2 = alikeI L W sz c := by
          unfold alikeI
          show L / sz * W + W / sz * (L % sz) + pairsI (W % sz) (L % sz) c + pairsI (W % sz) (L % sz) (c + sz) = _
          rw [pairs_swap e2 e1, pairs_swap (t := c + sz) e2 e1, Int.mul_comm (W / sz)]
        refine ⟨_, rfl, ?_⟩
        show Q (.int (roundI (L / sz * W + W / sz * (L % sz)) (L % sz) (W % sz) c sz 2)) _
        rw [e]
        exact q _ (sm0.trans sm1)
end
end BF

/-! ### len(set(xs)), xs ints -/
namespace BF
open PySem PySem.Spec PyProof.Rows L2
theorem first_mem (val : Nat → Int) : ∀ i x, x ∈ PyProof.Rows.firstMet val i ↔ ∃ j, j < i ∧ val j = x
  | 0, x => by
    rw [PyProof.Rows.firstMet_zero]
    constructor
    · intro h; cases h
    · rintro ⟨j, hj, _⟩; omega
  | i + 1, x => by
    have ih := first_mem val i
    rw [PyProof.Rows.firstMet_succ]
    unfold PyProof.Rows.step_dedup
    split
    · rename_i hany
      rw [ih x]
      constructor
      · rintro ⟨j, hj, e⟩
        exact ⟨j, by omega, e⟩
      · rintro ⟨j, hj, e⟩
        by_cases hji : j < i
        · exact ⟨j, hji, e⟩
        · have hj2 : j = i := by omega
          obtain ⟨y, hy, ey⟩ := List.any_eq_true.mp hany
          have ey2 : y = val i := eq_of_beq ey
          rw [ey2] at hy
          obtain ⟨j', hj', e'⟩ := (ih (val i)).mp hy
          exact ⟨j', hj', by rw [e', ← e, hj2]⟩
    · rw [List.mem_append, ih x]
      constructor
      · rintro (⟨j, hj, e⟩ | h)
        · exact ⟨j, by omega, e⟩
        · exact ⟨i, by omega, (List.mem_singleton.mp h).symm⟩
      · rintro ⟨j, hj, e⟩
        by_cases hji : j < i
        · exact .inl ⟨j, hji, e⟩
        · have hj2 : j = i := by omega
          exact .inr (List.mem_singleton.mpr (by rw [← e, hj2]))
theorem first_nodup (val : Nat → Int) : ∀ i, (PyProof.Rows.firstMet val i).Nodup
  | 0 => List.Pairwise.nil
  | i + 1 => by
    have ih := first_nodup val i
    rw [PyProof.Rows.firstMet_succ]
    unfold PyProof.Rows.step_dedup
    split
    · exact ih
    · rename_i hany
      refine List.pairwise_append.mpr ⟨ih, List.pairwise_singleton _ _, fun x hx y hy e => hany ?_⟩
      rw [List.mem_singleton] at hy
      exact List.any_eq_true.mpr ⟨x, hx, by rw [e, hy]; exact beq_self_eq_true _⟩
/-- more than one: two that differ -/
theorem first_many {ns : List Int} : 1 < (PyProof.Rows.firstMet (fun i => ns.getD i 0) ns.length).length ↔ ∃ x ∈ ns, ∃ y ∈ ns, x ≠ y := by
  have hm : ∀ x, x ∈ PyProof.Rows.firstMet (fun i => ns.getD i 0) ns.length ↔ x ∈ ns := fun x => by
    rw [first_mem]
    constructor
    · rintro ⟨j, hj, e⟩
      rw [List.getD_eq_getElem?_getD, List.getElem?_eq_getElem hj] at e
      rw [← e]
      exact List.getElem_mem hj
    · intro h
      obtain ⟨j, hj, e⟩ := List.mem_iff_getElem.mp h
      refine ⟨j, hj, ?_⟩
      show ns.getD j 0 = x
      rw [List.getD_eq_getElem?_getD, List.getElem?_eq_getElem hj]
      exact e
  have nd := first_nodup (fun i => ns.getD i 0) ns.length
  generalize PyProof.Rows.firstMet (fun i => ns.getD i 0) ns.length = l at hm nd
  constructor
  · intro h
    match l, h, nd, hm with
    | x :: y :: r, _, nd, hm =>
      refine ⟨x, (hm x).mp (by simp), y, (hm y).mp (by simp), ?_⟩
      exact (List.pairwise_cons.mp nd).1 y (by simp)
    | [x], h, _, _ => exact absurd h (by simp)
    | [], h, _, _ => exact absurd h (by decide)
  · rintro ⟨x, hx, y, hy, ne⟩
    have h1 := (hm x).mpr hx
    have h2 := (hm y).mpr hy
    match l, h1, h2 with
    | [], h1, _ => cases h1
    | [z], h1, h2 =>
      rw [List.mem_singleton] at h1 h2
      exact absurd (h1.trans h2.symm) ne
    | _ :: _ :: r, _, _ => simp only [List.length_cons]; omega
def tLenMany (K : PySem.W.Frag) (ta : TE) : TE := fun σ H Q => ta σ H fun x H1 => ∃ (l : Addr) (ns : List Int), x = .ref l ∧ SqL K H1 l (ns.map V.int) ∧ ns.length ≤ 3000 ∧ ∀ n : Nat, (1 < n ↔ ∃ x ∈ ns, ∃ y ∈ ns, x ≠ y) → Q (.int (n : Nat)) H1
theorem pe_lenMany {X : Cx} {a : Expr} {ta : TE} {p p2 q pos : Pos} (m1 : X.mg "len" = none) (m2 : X.mg "set" = none) (ha : PE X a ta) (g1 : Gl X "len" := by rfl) (g2 : Gl X "set" := by rfl) (hc : X.calm = true := by rfl)
    (na : starEach [a] X.env = (false, eval a X.env) :: starEach [] X.env := by rfl) : PE X (.Call (.Name "len" p) [.Call (.Name "set" p2) [a] [] q] [] pos) (tLenMany X.K ta) := by
  refine ⟨fun pins s σ H Q I h => Call_ (ld_blt I g1 m1 boot_len (PyProof.Rows.callWith_builtin1 (PyProof.Rows.args_cons (Call_ (ld_blt I g2 m2 boot_set ?_)) rfl) rfl rfl))⟩
  refine PyProof.Rows.callWith_type1 (PyProof.Rows.args_cons (thn (ha.run pins s σ H _ I h) fun v s1 ⟨x, H1, J, r1, z⟩ => PyProof.Rows.args_nil ?_) na) na rfl
  obtain ⟨l, ns, rfl, hq, hl, w⟩ := z
  cases r1
  obtain ⟨its, rr, pl, hz⟩ := J.list hq
  have sz : its.toArray.size = ns.length := by rw [List.size_toArray, ← rr.length, List.length_map]
  refine call_set_list (J.ok.hd hc) pl.isList (by simpa using RZ.intsAre_vals rr) (by rw [sz]; unfold scanBound; omega) fun h' tk hS hk => PyProof.Rows.args_nil ?_
  rw [sz] at hS
  have fl := PyProof.Rows.firstMet_length_le (fun i => ns.getD i 0) ns.length
  have fm := first_many (ns := ns)
  generalize PyProof.Rows.firstMet (fun i => ns.getD i 0) ns.length = fs at hS fl fm
  obtain ⟨o, es, ep, t, ho, hex, hd, _, _, _, hf, hn⟩ := hS
  have J2 : Inv X pins σ H1 { s1 with heap := h', toks := tk } := J.kept fun b o e => hk b o (Heap.lt_size e) e
  exact call_len_set ho hex hd hf (by rw [hn] <;> omega) ⟨.int fs.length, H1, J2.tok _, ⟨_, by rw [hn]⟩, w fs.length fm⟩
end BF

/-! ### the law k04 -/
namespace BF
open PySem PySem.Spec PyProof.Rows L2
inductive LoopA (a : Addr) (wh : Int) (H : Hp) : L2.St → Hp → Prop where
  | mk {H' : Hp} {y2 y3 y4 y5 y6 y7 y8 y9 y10 y11 y12 y13 : Option V} (sm : Same H H') : LoopA a wh H [some (.ref a), some (.int wh), y2, y3, y4, y5, y6, y7, y8, y9, y10, y11, y12, y13] H'
inductive LoopB (a : Addr) (wh at_ L W num : Int) (H : Hp) : L2.St → Hp → Prop where
  | mk {H' : Hp} {y3 y6 y7 y9 y10 y11 y12 y13 : Option V} (sm : Same H H') : LoopB a wh at_ L W num H [some (.ref a), some (.int wh), some (.int at_), y3, some (.int L), some (.int W), y6, y7, some (.int num), y9, y10, y11, y12, y13] H'
inductive LoopC (a : Addr) (wh at_ L W num sd : Int) (H : Hp) : L2.St → Hp → Prop where
  | mk {H' : Hp} {y3 y6 y7 y10 y11 y12 y13 : Option V} (sm : Same H H') : LoopC a wh at_ L W num sd H [some (.ref a), some (.int wh), some (.int at_), y3, some (.int L), some (.int W), y6, y7, some (.int num), some (.int sd), y10, y11, y12, y13] H'
def everyV (L W s : Int) (n : Nat) : List Int := (List.range n).map fun c : Nat => alikeI L W s (c : Int)
theorem every_succ (L W s : Int) (n : Nat) : everyV L W s (n + 1) = everyV L W s n ++ [alikeI L W s (n : Int)] := by
  unfold everyV
  rw [List.range_succ, List.map_append]
  rfl
theorem every_sum (L W s : Int) : ∀ n : Nat, (everyV L W s n).sum = sumI (fun c => alikeI L W s c) n
  | 0 => rfl
  | n + 1 => by
    rw [every_succ, List.sum_append, every_sum L W s n]
    show _ + (alikeI L W s (n : Int) + 0) = sumI (fun c => alikeI L W s c) n + alikeI L W s (n : Int)
    omega
theorem every_len (L W s : Int) (n : Nat) : (everyV L W s n).length = n := by
  unfold everyV
  rw [List.length_map, List.length_range]
theorem every_many {L W s : Int} (hs : 0 < s) : (∃ x ∈ everyV L W s s.toNat, ∃ y ∈ everyV L W s s.toNat, x ≠ y) ↔ (0 < L % s ∧ 0 < W % s) := by
  have h1 := Int.emod_nonneg L (Int.ne_of_gt hs)
  have h2 := Int.emod_nonneg W (Int.ne_of_gt hs)
  have mem : ∀ c : Int, 0 ≤ c → c < s → alikeI L W s c ∈ everyV L W s s.toNat := fun c h0 h1 => by
    obtain ⟨n, rfl⟩ := Int.eq_ofNat_of_zero_le h0
    exact List.mem_map.mpr ⟨n, List.mem_range.mpr (by omega), rfl⟩
  constructor
  · rintro ⟨x, hx, y, hy, ne⟩
    obtain ⟨i, hi, rfl⟩ := List.mem_map.mp hx
    obtain ⟨j, hj, rfl⟩ := List.mem_map.mp hy
    by_cases c1 : L % s = 0
    · exact absurd ((alike_same hs (by omega) (.inl c1)).trans (alike_same hs (by omega) (.inl c1)).symm) ne
    · by_cases c2 : W % s = 0
      · exact absurd ((alike_same hs (by omega) (.inr c2)).trans (alike_same hs (by omega) (.inr c2)).symm) ne
      · exact ⟨by omega, by omega⟩
  · rintro ⟨a, b⟩
    obtain ⟨c, d, c0, c1, d0, d1, ne⟩ := alike_differ hs a b
    exact ⟨_, mem c c0 c1, _, mem d d0 d1, ne⟩
theorem cut_at {cs : List Int} {lo hi : Option Int} {k : Nat} {y : V} (h : (cutV (cs.map V.int) lo hi)[k]? = some y) : ∃ c, c ∈ cs ∧ y = .int c := by
  have m := List.mem_of_getElem? h
  unfold cutV at m
  obtain ⟨c, hc, e⟩ := List.mem_map.mp (List.mem_of_mem_drop (List.mem_of_mem_take m))
  exact ⟨c, hc, e.symm⟩
section
variable {P : Program} {w : World} {K : PySem.W.Frag} {mg : Str → Option Value} {base : Heap}
theorem H_law (p : Pl K mg "law" s_law) (B : Bi mg) (h_alike : Has P w K mg base CX0 3 "alike" ["length", "width", "size", "colour"] SpAlike)
    (h__law_number : Has P w K mg base CX0 1 "_law_number" ["_law_cell", "_law_at", "_law_whole_here"] SpNumber)
    (h__law_four : Has P w K mg base CX0 2 "_law_four" ["_law_script", "_law_at", "_law_most"] (SpFour K))
    (h__law_whole : Has P w K mg base CX0 1 "_law_whole" ["_law_found"] (SpIsNumber K))
    (h__law_alike : Has P w K mg base CX0 1 "_law_alike" ["_law_length", "_law_width", "_law_size", "_law_colour"] SpAlike) :
    Has P w K mg base CX0 4 "law" ["_law_script"] (SpLaw K) := by
  refine p.mk0 sc_law (fun _ _ _ _ _ _ us hl => match us, hl with | [_], _ => rfl) (fun vs H Q E h => ?_) (fun f cdv A outer s H vs Q E hr h => ?_)
  · cases h; rfl
  · obtain @⟨a, ns, _, _, _, hl, hbits, hS, q⟩ := h
    refine ⟨_, (pss_cons (ps_set (i := 1) sc_law.nd rfl (Or.inl rfl) (pe_callB (cr_sum rfl) (by rfl) B.sum (by decide +kernel) (pa_cons (pe_slice sl_list (pv 0) po_none (po_some pe_int)) pa_nil)))
      (pss_cons (ps_for PassesOwn.never (by rfl) (pi_range1 (by rfl) B.range (pa_cons (pe_callB (call_min2 rfl) (by rfl) B.min (by decide +kernel) (pa_cons pe_int (pa_cons (pe_callB call_len_seq (by rfl) B.len PySem.boot_len (pa_cons (pv 0) pa_nil)) pa_nil))) pa_nil)) (pg_name (i := 2) sc_law.nd rfl (Or.inl rfl)) (pss_cons (ps_set (i := 3) sc_law.nd rfl (Or.inl rfl) (pe_ix ix_tup (pe_tup (pa_cons pe_int (pa_cons pe_int (pa_cons (pe_op op_pow pe_int pe_int) (pa_cons (pe_op op_pow pe_int pe_int) pa_nil))))) (pe_op op_mod (pe_op op_add (pv 1) (pv 2)) pe_int) (fun _ _ => rfl)))
      (pss_cons (ps_asg (pe_fn h__law_four (hr.mono (by decide)) pass0 (pa_cons (pv 0) (pa_cons (pv 2) (pa_cons (pv 3) pa_nil)))) (pg_tup (by rfl) (pgs_cons (pg_name (i := 4) sc_law.nd rfl (Or.inr rfl)) (pgs_cons (pg_name (i := 5) sc_law.nd rfl (Or.inr rfl)) (pgs_cons (pg_name (i := 6) sc_law.nd rfl (Or.inl rfl)) (pgs_cons (pg_name (i := 7) sc_law.nd rfl (Or.inl rfl)) pgs_nil))))))
      (pss_cons (ps_set (i := 8) sc_law.nd rfl (Or.inl rfl) (pe_fn h__law_number (hr.mono (by decide)) pass0 (pa_cons (pe_ix ix_list (pv 0) (pv 2) (fun _ _ => rfl)) (pa_cons (pe_op op_add (pv 2) pe_int) (pa_cons (pv 1) pa_nil)))))
      (pss_one (ps_for PassesOwn.never (by rfl) (pi_list (pe_lst (pa_cons (pv 6) (pa_cons (pv 7) pa_nil)))) (pg_name (i := 9) sc_law.nd rfl (Or.inr rfl)) (pss_cons (ps_set (i := 10) sc_law.nd rfl (Or.inl rfl) (pe_lst (pa_cons pe_int (pa_cons (pe_op op_sub (pv 9) pe_int) (pa_cons (pe_op op_mod (pv 8) (pv 9)) (pa_cons (pe_op op_mod (pe_op op_fdivW (pv 8) pe_int) (pv 9)) (pa_cons (pe_op op_mod (pe_op op_sub (pe_op op_add (pv 4) (pv 5)) pe_int) (pv 9)) pa_nil)))))))
      (pss_cons (ps_for PassesOwn.never (by rfl) (pi_list (pe_slice sl_list (pv 10) po_none (po_some (pe_ifExp (pt_cmpR op_lt (pv 2) pe_int (nomark _)) pe_int pe_int)))) (pg_name (i := 11) sc_law.nd rfl (Or.inl rfl)) (pss_cons (ps_set (i := 12) sc_law.nd rfl (Or.inl rfl) (pe_fn h_alike (hr.mono (by decide)) pass0 (pa_cons (pv 4) (pa_cons (pv 5) (pa_cons (pv 9) (pa_cons (pv 11) pa_nil))))))
      (pss_cons (ps_if (PW.pt (pw_or (pt_not (pt_val (pe_fn h__law_whole (hr.mono (by decide)) pass0 (pa_cons (pv 12) pa_nil)))) (pw_or1 (pt_cmpR op_ne (pv 12) (pe_fn h__law_alike (hr.mono (by decide)) pass0 (pa_cons (pv 4) (pa_cons (pv 5) (pa_cons (pv 9) (pa_cons (pv 11) pa_nil))))) (nomark _))))) (pss_one (ps_ret pe_bl)) pss_nil)
      (pss_one (ps_if (pt_cmpR op_ne (pv 12) (pe_fn h_alike (hr.mono (by decide)) pass0 (pa_cons (pv 5) (pa_cons (pv 4) (pa_cons (pv 9) (pa_cons (pv 11) pa_nil))))) (nomark _)) (pss_one (ps_ret pe_bl)) pss_nil)))))
      (pss_one (ps_if (pt_cmpR op_lt (pv 9) pe_int (nomark _)) (pss_cons (ps_setLc (i := 13) (own := [("_law_colour", 11)]) (by rfl) sc_law.nd rfl rfl (sw_true rfl rfl rfl (by decide +kernel)) (pi_range1 (by rfl) B.range (pa_cons (pv 9) pa_nil)) (blkOk_by (own := [("_law_colour", 11)]) (N := ["_law_script", "_law_whole_here", "_law_at", "_law_most", "_law_length", "_law_width", "_law_first", "_law_second", "_law_number_here", "_law_side", "_law_colours", "_law_colour", "_law_found", "_law_every"]) (sc := defScope s_law) (by decide +kernel)) (fun _ _ _ _ _ => (pg_name (i := 11) sc_law.nd rfl (Or.inl rfl))) (fun _ _ _ _ _ => pts_nil) (fun _ _ _ _ _ => (pe_fn h_alike (hr.mono (by decide)) pass0 (pa_cons (pv 4) (pa_cons (pv 5) (pa_cons (pv 9) (pa_cons (pv 11) pa_nil)))))))
      (pss_cons (ps_if (pt_cmpR op_ne (pe_callB (cr_sum rfl) (by rfl) B.sum (by decide +kernel) (pa_cons (pv 13) pa_nil)) (pe_op op_mulX (pv 4) (pv 5)) (nomark _)) (pss_one (ps_ret pe_bl)) pss_nil)
      (pss_one (ps_if (pt_cmpR op_ne (pe_cmpR op_gt (pe_lenMany B.len B.set (pv 13)) pe_int (nomark _)) (pe_and (pe_cmpR op_gt (pe_op op_mod (pv 4) (pv 9)) pe_int (nomark _)) (pe_one (pe_cmpR op_gt (pe_op op_mod (pv 5) (pv 9)) pe_int (nomark _)))) (nomark _)) (pss_one (ps_ret pe_bl)) pss_nil)))) pss_nil))))))))))
      (pss_cons (ps_if (pt_cmpR (op_neD hr.units) (pe_lc (own := [("_law_colour", 11)]) (by rfl) sc_law.nd (pi_range1 (by rfl) B.range (pa_cons pe_int pa_nil)) (blkOk_by (own := [("_law_colour", 11)]) (N := ["_law_script", "_law_whole_here", "_law_at", "_law_most", "_law_length", "_law_width", "_law_first", "_law_second", "_law_number_here", "_law_side", "_law_colours", "_law_colour", "_law_found", "_law_every"]) (sc := defScope s_law) (by decide +kernel)) (fun _ _ _ _ _ => (pg_name (i := 11) sc_law.nd rfl (Or.inl rfl))) (fun _ _ _ _ _ => pts_nil) (fun _ _ _ _ _ => (pe_fn h_alike (hr.mono (by decide)) pass0 (pa_cons pe_int (pa_cons pe_int (pa_cons pe_int (pa_cons (pv 11) pa_nil))))))) (pe_lst (pa_cons pe_int (pa_cons pe_int (pa_cons pe_int pa_nil)))) (nomark _)) (pss_one (ps_ret pe_bl)) pss_nil)
      (pss_one (ps_ret (pe_and (pe_cmpR op_eq (pe_fn h_alike (hr.mono (by decide)) pass0 (pa_cons (pe_op op_pow pe_int pe_int) (pa_cons pe_int (pa_cons (pe_op op_pow pe_int pe_int) (pa_cons pe_int pa_nil))))) pe_int (nomark _)) (pe_and (pe_cmpR op_eq (pe_fn h_alike (hr.mono (by decide)) pass0 (pa_cons (pe_op op_pow pe_int pe_int) (pa_cons pe_int (pa_cons (pe_op op_pow pe_int pe_int) (pa_cons pe_int pa_nil))))) pe_int (nomark _)) (pe_one (pe_cmpR op_eq (pe_fn h_alike (hr.mono (by decide)) pass0 (pa_cons pe_int (pa_cons pe_int (pa_cons pe_int (pa_cons pe_int pa_nil))))) pe_int (nomark _)))))))))), ?_⟩
    -- the sum of the cells
    obtain ⟨ms, ems⟩ := cut_ints ns none (some 63)
    refine ⟨_, rfl, 63, rfl, a, _, rfl, hS, fun p1 hp1 => ⟨p1, ms, rfl, sqL (by rw [← ems]; exact upd_same), ?_⟩⟩
    have sm1 : Same H (upd H p1 (.lst (cutV (ns.map V.int) none (some 63)))) := same_upd hp1
    generalize upd H p1 (.lst (cutV (ns.map V.int) none (some 63))) = H1 at sm1 ⊢
    generalize hwh : ms.sum = wh
    refine ⟨_, rfl, a, _, rfl, .inl (sm1.seq hS), _, _, rfl, ?_⟩
    refine ⟨_, rfl, ?_, ?_, ?_⟩
    · show -(2 ^ 62) ≤ (if ((ns.map V.int).length : Int) < 63 then ((ns.map V.int).length : Int) else 63)
      split <;> omega
    · show (if ((ns.map V.int).length : Int) < 63 then ((ns.map V.int).length : Int) else 63) < 2 ^ 62
      split <;> omega
    refine for_range (lo := 0) (n := _) (fun i σ H' => LoopA a wh H σ H') (.mk sm1) ?_ ?_
    · rintro i _ H2 hi @⟨_, _, _, _, _, _, _, _, _, _, _, _, _, sm2⟩
      have hin : i < ns.length := by
        have : (if ((ns.map V.int).length : Int) < 63 then ((ns.map V.int).length : Int) else 63) ≤ ns.length := by
          rw [List.length_map]
          split <;> omega
        omega
      -- most
      walk_at "rd"
      intro p2 hp2
      generalize hH3 : upd H2 p2 _ = H3
      obtain ⟨sm3, up3⟩ : Same H2 H3 ∧ H3 p2 = some (.tup [.int 3, .int 9, .int (10 ^ (6 : Int).toNat), .int (10 ^ (20 : Int).toNat)]) := newH hH3 hp2
      clear hH3
      replace sm3 := sm2.trans sm3
      obtain ⟨mv, emv, hmv⟩ := pick4 (x0 := .int 3) (x1 := .int 9) (x2 := .int (10 ^ (6 : Int).toNat)) (x3 := .int (10 ^ (20 : Int).toNat)) (k := (wh + (0 + (i : Int))) % 4) (Int.emod_nonneg _ (by decide)) (Int.emod_lt_of_pos _ (by decide))
      obtain ⟨most, rfl, hm1, hm2⟩ : ∃ most : Int, mv = .int most ∧ 0 < most ∧ most ≤ 10 ^ 20 := by
        rcases hmv with rfl | rfl | rfl | rfl <;> exact ⟨_, rfl, by decide, by decide⟩
      walk_at "rd"
      refine ⟨p2, _, _, _, rfl, rfl, sqT up3, emv, ?_⟩
      clear emv hmv
      walk_at "rd"
      refine .mk hbits hl (sm3.seq hS) (by omega) (by omega) hm1 hm2 fun L W f s p4 H4 hL hW hf hs sm4 hp4 => ?_
      replace sm4 := sm3.trans sm4
      refine ⟨p4, _, rfl, sqT hp4, rfl, _, _, rfl, _, _, rfl, _, _, rfl, _, _, rfl, rfl, ?_⟩
      obtain ⟨c1, hc1, ec1⟩ := at_cell (ns := ns) (k := 0 + (i : Int)) (by omega) (by omega)
      refine ⟨_, rfl, _, rfl, a, _, _, _, rfl, rfl, sm4.seq hS, ec1, _, rfl, _, _, rfl, rfl, _, rfl, .mk (bn_bits (hbits _ hc1)) (bnl (n := 10) (by omega)) fun num => ?_⟩
      walk_at "rd"
      intro p5 hp5
      generalize hH5 : upd H4 p5 _ = H5
      obtain ⟨sm5, up5⟩ : Same H4 H5 ∧ H5 p5 = some (.lst ([f, s].map V.int)) := newH hH5 hp5
      clear hH5
      replace sm5 := sm4.trans sm5
      refine ⟨p5, rfl, ⟨_, sqL up5⟩, for_list (K := K) (a := p5) (xs := [f, s].map V.int) (fun j σ H' => LoopB a wh (0 + (i : Int)) L W num H5 σ H') (.mk (Same.refl _)) ?_ ?_ ?_⟩
      · rintro _ _ _ _ ⟨sm⟩
        exact sqL (sm _ _ up5)
      · rintro j _ _ H6 hj @⟨_, _, _, _, _, _, _, _, _, sm6⟩
        obtain ⟨sd, hj2, rfl⟩ := ints_at hj
        have hsd : Sd sd := by
          match j, hj2 with
          | 0, e => cases e; exact hf
          | 1, e => cases e; exact hs
          | n + 2, e => cases e
        have hp := hsd.pos
        have hz := hsd.sz
        have zL := hL.sz
        have zW := hW.sz
        walk_at "rd"
        intro p7 hp7
        generalize hH7 : upd H6 p7 _ = H7
        obtain ⟨sm7, up7⟩ : Same H6 H7 ∧ H7 p7 = some (.lst ([0, sd - 1, num % sd, num / 9 % sd, (L + W - 1) % sd].map V.int)) := newH hH7 hp7
        clear hH7
        replace sm7 := sm6.trans sm7
        have hcol : ∀ c ∈ [0, sd - 1, num % sd, num / 9 % sd, (L + W - 1) % sd], 0 ≤ c ∧ c < sd := by
          intro c hc
          have g : ∀ x : Int, 0 ≤ x % sd ∧ x % sd < sd := fun x => ⟨Int.emod_nonneg _ (Int.ne_of_gt hp), Int.emod_lt_of_pos _ hp⟩
          have e : c = 0 ∨ c = sd - 1 ∨ c = num % sd ∨ c = num / 9 % sd ∨ c = (L + W - 1) % sd := by simpa using hc
          rcases e with rfl | rfl | rfl | rfl | rfl
          · exact ⟨by omega, hp⟩
          · exact ⟨by omega, by omega⟩
          · exact g _
          · exact g _
          · exact g _
        generalize [0, sd - 1, num % sd, num / 9 % sd, (L + W - 1) % sd] = cols at up7 hcol
        refine ⟨_, rfl, _, rfl, _, _, rfl, rfl, _, rfl, iteD (fun _ => ⟨5, rfl, ?_⟩) (fun _ => ⟨3, rfl, ?_⟩)⟩
        all_goals
          refine ⟨p7, _, rfl, sqL up7, fun p8 hp8 => ?_⟩
          generalize hH8 : upd H7 p8 _ = H8
          obtain ⟨sm8, up8⟩ := newH hH8 hp8
          clear hH8
          generalize hys : cutV (cols.map V.int) _ _ = ys at up8
          replace sm8 := sm7.trans sm8
          refine ⟨p8, rfl, ⟨_, sqL up8⟩, for_list (K := K) (a := p8) (xs := ys) (fun j σ H' => LoopC a wh (0 + (i : Int)) L W num sd H8 σ H') (.mk (Same.refl _)) ?_ ?_ ?_⟩
          · rintro _ _ _ _ ⟨sm⟩
            exact sqL (sm _ _ up8)
          · rintro k _ _ H9 hk @⟨_, _, _, _, _, _, _, _, sm9⟩
            rw [← hys] at hk
            obtain ⟨c, hc, rfl⟩ := cut_at hk
            obtain ⟨hc0, hc1⟩ := hcol c hc
            walk_at "rd"
            refine .mk zL zW hz hc0 hc1 fun H10 sm10 => ?_
            refine ⟨_, rfl, num_int ⟨true, rfl, iteF ?_⟩⟩
            walk_at "rd"
            refine .mk zL zW hz hc0 hc1 fun H11 sm11 => ?_
            refine ⟨rfl, _, rfl, iteNe (fun z => absurd rfl z) (fun _ => ?_)⟩
            walk_at "rd"
            refine .mk zW zL hz hc0 hc1 fun H12 sm12 => ?_
            refine ⟨rfl, _, rfl, iteNe (fun z => absurd (alike_swap hp) z) (fun _ => ?_)⟩
            exact .mk (sm9.trans (sm10.trans (sm11.trans sm12)))
          · rintro _ H9 @⟨_, _, _, _, _, _, _, _, sm9⟩
            walk_at "rd"
            refine iteD (fun c => ?_) (fun c => ?_)
            · have c : sd < 20 := c
              obtain ⟨n, rfl⟩ := Int.eq_ofNat_of_zero_le (Int.le_of_lt hp)
              walk_at "rd"
              intro D hD
              refine lc_range (lo := 0) (n := n) (fun i H' => Same H9 H' ∧ H' D = some (.lst ((everyV L W n i).map V.int))) ⟨same_upd hD, upd_same⟩ ?_ ?_
              · rintro i H' hi ⟨sm, eD⟩
                have e0 : (0 : Int) + (i : Int) = i := by omega
                refine ⟨rfl, lc_yes ?_⟩
                walk_at "rd"
                refine .mk zL zW hz (by omega) (by omega) fun H3 sm3 => ⟨_, sm3 _ _ eD, ?_, ?_, ?_⟩
                · rw [List.length_map, every_len]
                  exact Nat.lt_of_lt_of_le hi (size4 (by omega))
                · exact fun b1 o e => by rw [upd_ne (ne_of_none e hD)]; exact sm3 _ _ (sm b1 o e)
                · rw [upd_same, every_succ, List.map_append, e0]
                  rfl
              · rintro H' ⟨sm, eD⟩
                have s1 := every_sum L W n n
                rw [sum_alike hp rfl (Int.le_of_lt zW.pos)] at s1
                have s2 := every_many (L := L) (W := W) hp
                rw [Int.toNat_natCast] at s2
                refine ⟨_, rfl, D, _, rfl, sqL eD, ?_⟩
                walk_at "rd"
                refine iteNe (fun z => absurd s1 z) (fun _ => ?_)
                refine ⟨_, rfl, D, _, rfl, sqL eD, by rw [every_len]; omega, fun m hm => ?_⟩
                rw [s2] at hm
                walk_at "rd"
                refine iteD (fun d1 => ?_) (fun d1 => ?_)
                · refine ⟨_, rfl, _, rfl, _, _, rfl, rfl, hp, _, _, rfl, rfl, rfl, _, rfl, iteNP (congrArg V.bl (decide_eq_decide.mpr ?_)) (.mk (sm8.trans (sm9.trans sm)))⟩
                  constructor
                  · intro z
                    exact (hm.mp (by omega)).2
                  · intro z
                    have := hm.mpr ⟨d1, z⟩
                    omega
                · refine ⟨rfl, _, rfl, iteNP (congrArg V.bl (decide_eq_false fun z => d1 (hm.mp (by omega)).1)) (.mk (sm8.trans (sm9.trans sm)))⟩
            · exact .mk (sm8.trans sm9)
      · rintro _ H6 @⟨_, _, _, _, _, _, _, _, _, sm6⟩
        exact .mk (sm5.trans sm6)
    · rintro _ H2 @⟨_, _, _, _, _, _, _, _, _, _, _, _, _, sm2⟩
      have z1 : Sz 1 := sz_of_lt (by decide) (by decide)
      have z2 : Sz 2 := sz_of_lt (by decide) (by decide)
      have z3 : Sz 3 := sz_of_lt (by decide) (by decide)
      have z9 : Sz 9 := sz_of_lt (by decide) (by decide)
      have za : Sz (10 ^ (30 : Int).toNat) := sz_of_lt (by decide) (by decide)
      have zb : Sz (10 ^ (31 : Int).toNat) := sz_of_lt (by decide) (by decide)
      walk_at "rd"
      intro D hD
      refine lc_range (lo := 0) (n := 3) (fun i H' => Same H2 H' ∧ H' D = some (.lst ((everyV 2 2 3 i).map V.int))) ⟨same_upd hD, upd_same⟩ ?_ ?_
      · rintro i H' hi ⟨sm, eD⟩
        have e0 : (0 : Int) + (i : Int) = i := by omega
        refine ⟨rfl, lc_yes ?_⟩
        walk_at "rd"
        refine .mk z2 z2 z3 (by omega) (by omega) fun H3 sm3 => ⟨_, sm3 _ _ eD, ?_, ?_, ?_⟩
        · rw [List.length_map, every_len]
          exact Nat.lt_of_lt_of_le hi (size4 (by omega))
        · exact fun b1 o e => by rw [upd_ne (ne_of_none e hD)]; exact sm3 _ _ (sm b1 o e)
        · rw [upd_same, every_succ, List.map_append, e0]
          rfl
      · rintro H' ⟨sm, eD⟩
        walk_at "rd"
        intro p3 hp3
        have eD2 : H' D = some (.lst [.int 1, .int 2, .int 1]) := eD
        refine ⟨.list [.int 1, .int 2, .int 1], .list [.int 1, .int 2, .int 1], .lst (sqL (same_upd hp3 _ _ eD2)) (.cons (.int 1) (.cons (.int 2) (.cons (.int 1) .nil))), .lst (sqL upd_same) (.cons (.int 1) (.cons (.int 2) (.cons (.int 1) .nil))), rfl, rfl, false, rfl, iteF ?_⟩
        walk_at "rd"
        refine .mk za z1 zb (by decide) (by decide) fun H4 sm4 => ⟨rfl, true, congrArg V.bl (decide_eq_true (by decide)), iteT ?_⟩
        walk_at "rd"
        refine .mk za z2 zb (by decide) (by decide) fun H5 sm5 => ⟨rfl, true, congrArg V.bl (decide_eq_true (by decide)), iteT ?_⟩
        walk_at "rd"
        refine .mk z1 z1 z9 (by decide) (by decide) fun H6 sm6 => ⟨rfl, ?_⟩
        rw [decide_eq_true (by decide)]
        exact q _
end
end BF

namespace BF
open PySem PySem.Spec PyProof.Rows L2
/-! ### what the top leaves: each def by name -/
def d_is_number : He.DefD := ⟨("is_number", none), "is_number", "is_number", defArgs s_is_number, defBody s_is_number, defScope s_is_number, [], []⟩
def d_check_sizes : He.DefD := ⟨("check_sizes", none), "check_sizes", "check_sizes", defArgs s_check_sizes, defBody s_check_sizes, defScope s_check_sizes, [], []⟩
def d_pairs_to : He.DefD := ⟨("pairs_to", none), "pairs_to", "pairs_to", defArgs s_pairs_to, defBody s_pairs_to, defScope s_pairs_to, [], []⟩
def d_alike : He.DefD := ⟨("alike", none), "alike", "alike", defArgs s_alike, defBody s_alike, defScope s_alike, [], []⟩
def d__law_number : He.DefD := ⟨("_law_number", none), "_law_number", "_law_number", defArgs s__law_number, defBody s__law_number, defScope s__law_number, [], []⟩
def d__law_four : He.DefD := ⟨("_law_four", none), "_law_four", "_law_four", defArgs s__law_four, defBody s__law_four, defScope s__law_four, [], []⟩
def d__law_whole : He.DefD := ⟨("_law_whole", none), "_law_whole", "_law_whole", defArgs s__law_whole, defBody s__law_whole, defScope s__law_whole, [], []⟩
def d__law_alike : He.DefD := ⟨("_law_alike", none), "_law_alike", "_law_alike", defArgs s__law_alike, defBody s__law_alike, defScope s__law_alike, [], []⟩
def d_law : He.DefD := ⟨("law", none), "law", "law", defArgs s_law, defBody s_law, defScope s_law, [], []⟩
def fns : List He.DefD := [d_is_number, d_check_sizes, d_pairs_to, d_alike, d__law_number, d__law_four, d__law_whole, d__law_alike, d_law]
def fas : List He.Fa := [.glo "is_number", .glo "check_sizes", .glo "pairs_to", .glo "alike", .glo "_law_number", .glo "_law_four", .glo "_law_whole", .glo "_law_alike", .glo "law", .free "bool", .free "int", .free "isinstance", .free "len", .free "max", .free "min", .free "range", .free "set", .free "sum"]
def loose0 : List PySem.Str := ["FloorError", "BadSize", "BadColour", "is_number", "check_sizes", "pairs_to", "alike", "_law_number", "_law_four", "_law_whole", "_law_alike"]
def looseN : List PySem.Str := loose0
def tfs : List He.Defn := []
abbrev R : PySem.W.OpenRow := PySem.W.OpenLaw.row PySem.Challenge.rw_brickfloor_k04_whole_stripes
abbrev hk : PySem.W.Hook := He.hookX 4 fas fns [] tfs (fun _ => true)
def ob (s : PySem.W.SharedT) : He.AlX := He.obsX 4 fas fns [] tfs (fun _ => true) (HandSHeadRun.getT s)
theorem ob_eq (s : PySem.W.SharedT) : ob s = hk.obs s.abs := He.obsX_eq (HandSHeadRun.getT_eq s)
theorem run (w : World) : HandSHeadRun.RunEq R (PySem.W.view R.prog [15]) hk ob 4000 looseN w := by
  intro os
  kernel_rfl
abbrev Says (w : World) (h : Heap) (K : PySem.W.Frag) : Prop := He.SaysX fas fns [] tfs (fun _ => true) w h K
section
variable {w : World} {K : PySem.W.Frag} {h : Heap} {mg : Str → Option Value}
theorem pl_is_number (X : K.In h) (G : h.Ns mainGlobals mg) (c : Says w h K) : Pl K mg "is_number" s_is_number := by
  obtain ⟨fd, F⟩ := c.t.d.def_ 0 (d := d_is_number) rfl
  exact ⟨_, fd, F, He.glo_ok X G (c.t.d.fact 0 (f := .glo "is_number") rfl)⟩
theorem pl_check_sizes (X : K.In h) (G : h.Ns mainGlobals mg) (c : Says w h K) : Pl K mg "check_sizes" s_check_sizes := by
  obtain ⟨fd, F⟩ := c.t.d.def_ 1 (d := d_check_sizes) rfl
  exact ⟨_, fd, F, He.glo_ok X G (c.t.d.fact 1 (f := .glo "check_sizes") rfl)⟩
theorem pl_pairs_to (X : K.In h) (G : h.Ns mainGlobals mg) (c : Says w h K) : Pl K mg "pairs_to" s_pairs_to := by
  obtain ⟨fd, F⟩ := c.t.d.def_ 2 (d := d_pairs_to) rfl
  exact ⟨_, fd, F, He.glo_ok X G (c.t.d.fact 2 (f := .glo "pairs_to") rfl)⟩
theorem pl_alike (X : K.In h) (G : h.Ns mainGlobals mg) (c : Says w h K) : Pl K mg "alike" s_alike := by
  obtain ⟨fd, F⟩ := c.t.d.def_ 3 (d := d_alike) rfl
  exact ⟨_, fd, F, He.glo_ok X G (c.t.d.fact 3 (f := .glo "alike") rfl)⟩
theorem pl__law_number (X : K.In h) (G : h.Ns mainGlobals mg) (c : Says w h K) : Pl K mg "_law_number" s__law_number := by
  obtain ⟨fd, F⟩ := c.t.d.def_ 4 (d := d__law_number) rfl
  exact ⟨_, fd, F, He.glo_ok X G (c.t.d.fact 4 (f := .glo "_law_number") rfl)⟩
theorem pl__law_four (X : K.In h) (G : h.Ns mainGlobals mg) (c : Says w h K) : Pl K mg "_law_four" s__law_four := by
  obtain ⟨fd, F⟩ := c.t.d.def_ 5 (d := d__law_four) rfl
  exact ⟨_, fd, F, He.glo_ok X G (c.t.d.fact 5 (f := .glo "_law_four") rfl)⟩
theorem pl__law_whole (X : K.In h) (G : h.Ns mainGlobals mg) (c : Says w h K) : Pl K mg "_law_whole" s__law_whole := by
  obtain ⟨fd, F⟩ := c.t.d.def_ 6 (d := d__law_whole) rfl
  exact ⟨_, fd, F, He.glo_ok X G (c.t.d.fact 6 (f := .glo "_law_whole") rfl)⟩
theorem pl__law_alike (X : K.In h) (G : h.Ns mainGlobals mg) (c : Says w h K) : Pl K mg "_law_alike" s__law_alike := by
  obtain ⟨fd, F⟩ := c.t.d.def_ 7 (d := d__law_alike) rfl
  exact ⟨_, fd, F, He.glo_ok X G (c.t.d.fact 7 (f := .glo "_law_alike") rfl)⟩
theorem pl_law (X : K.In h) (G : h.Ns mainGlobals mg) (c : Says w h K) : Pl K mg "law" s_law := by
  obtain ⟨fd, F⟩ := c.t.d.def_ 8 (d := d_law) rfl
  exact ⟨_, fd, F, He.glo_ok X G (c.t.d.fact 8 (f := .glo "law") rfl)⟩
theorem bi_ok (X : K.In h) (G : h.Ns mainGlobals mg) (c : Says w h K) : Bi mg := ⟨He.free_ok X G (c.t.d.fact 9 (f := .free "bool") rfl), He.free_ok X G (c.t.d.fact 10 (f := .free "int") rfl), He.free_ok X G (c.t.d.fact 11 (f := .free "isinstance") rfl), He.free_ok X G (c.t.d.fact 12 (f := .free "len") rfl), He.free_ok X G (c.t.d.fact 13 (f := .free "max") rfl), He.free_ok X G (c.t.d.fact 14 (f := .free "min") rfl), He.free_ok X G (c.t.d.fact 15 (f := .free "range") rfl), He.free_ok X G (c.t.d.fact 16 (f := .free "set") rfl), He.free_ok X G (c.t.d.fact 17 (f := .free "sum") rfl)⟩
end
end BF
namespace BF
open PySem PySem.Spec PyProof.Rows L2
def lawLevel : Nat := 4
section
variable {w : World} {K : PySem.W.Frag} {h : Heap} {mg : Str → Option Value} {P : Program} {base : Heap}
theorem has_law (X : K.In h) (G : h.Ns mainGlobals mg) (c : Says w h K) : Has P w K mg base CX0 4 "law" ["_law_script"] (SpLaw K) := by
  have B := bi_ok X G c
  have h1 := H_is_number (P := P) (w := w) (base := base) (pl_is_number X G c) B
  have h2 := H_check_sizes (pl_check_sizes X G c) h1
  have h3 := H_pairs_to (P := P) (w := w) (base := base) (pl_pairs_to X G c) B
  have h4 := H_alike (pl_alike X G c) h2 h1 h3
  have h6 := H__law_number (P := P) (w := w) (base := base) (pl__law_number X G c)
  have h7 := H__law_whole (P := P) (w := w) (base := base) (pl__law_whole X G c) B
  have h8 := H__law_four (pl__law_four X G c) B h6
  have h9 := H__law_alike (P := P) (w := w) (base := base) (pl__law_alike X G c) B
  exact H_law (pl_law X G c) B h4 h6 h8 h7 h9
theorem law_at {f : Addr} (X : K.In h) (G : h.Ns mainGlobals mg) (c : Says w h K) (g : mg ("law" : Str) = some (.ref f)) : LamX.LawAtS PySem.Challenge.rw_brickfloor_k04_whole_stripes w K CX0 lawLevel 63 "_law_script" mg f h := by
  obtain ⟨f', fd, F, g'⟩ := pl_law X G c
  have e := g.symm.trans g'
  cases e
  refine ⟨fd, [], SpLaw K, (fun _ z => nomatch z), (fun _ z => nomatch z), (fun _ z => nomatch z), fun s u => FunD.bindsA (ps := ["_law_script"]) F (fun _ _ _ _ _ _ us hl => match us, hl with | [_], _ => rfl) s [u] rfl, fun H a ns hl hb _ hS => .mk hl hb hS fun _ => rfl, fun base hK hG _ => (has_law X G c).at F g'⟩
end
end BF

open PySem PySem.W PySem.Calls PyProof.Rows
set_option maxRecDepth 100000 in
set_option maxHeartbeats 8000000 in
theorem PySem.Challenge.cw_brickfloor_k04_whole_stripes_holds : PySem.Challenge.rw_brickfloor_k04_whole_stripes.Holds := by
  w_on; o_law
  refine HandSHeadRun.head_any (r := OpenLaw.row PySem.Challenge.rw_brickfloor_k04_whole_stripes) (q := view (OpenLaw.row PySem.Challenge.rw_brickfloor_k04_whole_stripes).prog [15]) (H := BF.hk) (ob := BF.ob) (loose := BF.looseN) (d := HandSHeadRun.topDef (OpenLaw.row PySem.Challenge.rw_brickfloor_k04_whole_stripes).prog 15) (kwd := []) BF.ob_eq
    (by kernel_rfl) (fun s => by kernel_rfl) BF.run (by kernel_rfl) (by kernel_rfl) (by kernel_rfl) (by rfl) (by first | assumption | decide +kernel) (by decide +kernel) ⟨rfl, rfl, rfl, rfl, rfl, by decide +kernel⟩ ?hw ?hc
  case hw => w_witness2
  case hc =>
    refine LamX.walk_ofTsE (l := PySem.Challenge.rw_brickfloor_k04_whole_stripes) (n := 63) (k := BF.lawLevel) (x := "_law_script") (CX := fun _ => L2.CX0) rfl (by decide) (by kernel_rfl) ⟨rfl, by decide, by decide⟩ ?F (fun _ _ _ _ _ z => z)
    intro w mg fa h Y G hmg0
    obtain ⟨K, KX, c⟩ := Y
    have hmg : mg ("law" : PySem.Str) = some (.ref fa) := by
      have e : (HandSHeadRun.topDef (OpenLaw.row PySem.Challenge.rw_brickfloor_k04_whole_stripes).prog 15).name = ("law" : PySem.Str) := by kernel_rfl
      rw [← e]
      exact hmg0
    exact ⟨K, KX, BF.law_at KX G c hmg⟩
