import PyProof.Rows.All
import Wide.All
import OpenK.AllK
import Wide.FinOn
import KE.KStateDown
import HandS.ForMost
import HandS.ForExc
import HandS.More
import HandS.Wide
import HandS.WideBits
import HandS.Style
import HandS.Flow
import HandS.Zip
import HandS.TupLen
import HandS.Deep
import HandS.IsInst
import HandS.Defaults
import HandS.Head0
import HandS.Head1
import HandS.Head2
import HandS.HeadEnd
import HandS.HeadHook1
import HandS.HeadHook2
import HandS.HeadHook3
import HandS.HeadHook4
import HandS.HeadWalk
import HandS.Evl
import KE.DataMinMax
import KE.GoesMore
import KE.KeyNested
import KE.SortData
import HandS.Conv
import HandS.ExcIs
import HandS.ExcCtx
import HandS.HotCalls
import HandS.SetFor
import HandS.Strs
import HandS.Nested
import PySem.Challenge.RW_brickfloor_k10_handed_stays
set_option pp.maxSteps 700
set_option Elab.async false
set_option linter.all false
set_option maxRecDepth 100000
set_option maxHeartbeats 4000000
/-! ### a def of the top, where it stands, and its promise -/
namespace BF
open PySem PySem.Spec PyProof.Rows L2
abbrev FnP (K : PySem.W.Frag) (x q : Str) (st : Stmt) (f : Addr) (fd : FuncData) : Prop := FunD K x q (defArgs st) (defBody st) (defScope st) [] [] f fd
/-- the def x of the top stands where the module's name says -/
def Pl (K : PySem.W.Frag) (mg : Str → Option Value) (x : Str) (st : Stmt) : Prop := ∃ f fd, FnP K x x st f fd ∧ mg x = some (.ref f)
/-- the def x keeps its promise, by calls at most k deep -/
def Has (P : Program) (w : World) (K : PySem.W.Frag) (mg : Str → Option Value) (base : Heap) (C : CXT) (k : Nat) (x : Str) (ps : List Str) (sp : Sp) : Prop :=
  ∃ f fd, FnOk P w K mg base C k f fd ps sp ∧ mg x = some (.ref f) ∧ PySem.W.keepIn K (.ref f) = true ∧ Binds K fd ps [] ∧ ∃ oc od osl, K.lookup f = some ⟨oc, od, .func fd, osl⟩
section
variable {P : Program} {w : World} {K : PySem.W.Frag} {mg : Str → Option Value} {base : Heap} {x : Str} {st : Stmt} {N ps : List Str} {k : Nat} {sp : Sp}
theorem Pl.mkX {C : CXT} (p : Pl K mg x st) (S : FnScope N ps (defScope st))
    (hb : ∀ (kV doc pm : Value) (an : Option Addr) (cdv ct : Value) (us : List Value), us.length = ps.length → bindArgs (PySem.W.fnOf x x (defArgs st) (defBody st) (defScope st) .none kV doc pm an cdv ct) ⟨us, []⟩ = pure (ps.zip us))
    (len : ∀ vs H Q E, sp vs H Q E → vs.length = ps.length)
    (body : ∀ (f : Addr) (cdv : Value) (A : Around) (outer : List Env) (s : Shared) (H : Hp) (vs : List V) (Q : VK) (E : XK), Room k (A.deeper (envOfC x (defScope st) s.heap.objs.size f cdv)) → sp vs H Q E →
      ∃ t, PSs (cxOf C P w K mg base N x (defScope st) f cdv A outer s H E) (defBody st) t ∧ t { nx := fun _ H' => Q .non H', rt := Q } (start N vs) H) : Has P w K mg base C (k + 1) x ps sp := by
  obtain ⟨f, fd, F, g⟩ := p
  obtain ⟨oc, od, _, _, _, _, _, _, _, osl, _, lk, _⟩ := F.ex
  exact ⟨f, fd, F.ok S len (body f), g, F.kp, F.bindsN hb, oc, od, osl, lk⟩
/-- of the def at f (the law) -/
theorem Has.at {C : CXT} {f : Addr} {fd : FuncData} (h : Has P w K mg base C k x ps sp) (F : FnP K x x st f fd) (g : mg x = some (.ref f)) : FnOk P w K mg base C k f fd ps sp := by
  obtain ⟨f', fd', G, g', _, _, oc, od, osl, lk⟩ := h
  obtain ⟨oc2, od2, _, _, _, _, _, _, _, osl2, _, lk2, _⟩ := F.ex
  have e : f' = f := by
    have z := g'.symm.trans g
    cases z
    rfl
  subst e
  have z := lk.symm.trans lk2
  cases z
  exact G
theorem Pl.mk0 (p : Pl K mg x st) (S : FnScope N ps (defScope st))
    (hb : ∀ (kV doc pm : Value) (an : Option Addr) (cdv ct : Value) (us : List Value), us.length = ps.length → bindArgs (PySem.W.fnOf x x (defArgs st) (defBody st) (defScope st) .none kV doc pm an cdv ct) ⟨us, []⟩ = pure (ps.zip us))
    (len : ∀ vs H Q E, sp vs H Q E → vs.length = ps.length)
    (body : ∀ (f : Addr) (cdv : Value) (A : Around) (outer : List Env) (s : Shared) (H : Hp) (vs : List V) (Q : VK) (E : XK), Room k (A.deeper (envOfC x (defScope st) s.heap.objs.size f cdv)) → sp vs H Q E →
      ∃ t, PSs (cxOf CX0 P w K mg base N x (defScope st) f cdv A outer s H E).nox (defBody st) t ∧ t { nx := fun _ H' => Q .non H', rt := Q } (start N vs) H) : Has P w K mg base CX0 (k + 1) x ps sp :=
  p.mkX S hb len fun f cdv A outer s H vs Q E hr h => by
    obtain ⟨t, a, b⟩ := body f cdv A outer s H vs Q E hr h
    exact ⟨t, a.nox, b⟩
end
section
variable {X : Cx} {C : CXT} {k : Nat} {ps : List Str} {sp : Sp} {E : XK} {x : Str} {p pos : Pos} {e : Expr} {es : List Expr} {t : TA}
theorem pe_fn (h : Has X.prog X.w X.K X.mg X.base C k x ps sp) (hr : Room k X.A) (hx : Passes C X E) (ha : PA X (e :: es) t) (hg : Gl X x := by rfl) (hdb : (x == ("__debug__" : Str)) = false := by decide)
    (he : starEach (e :: es) X.env = (false, eval e X.env) :: starEach es X.env := by rfl) (hpl : (backTo pos (starEach es X.env)).any (·.1) = false := by rfl) : PE X (.Call (.Name x p) (e :: es) [] pos) (tCall sp [] E t) := by
  obtain ⟨f, fd, F, hm, hk, hb, _⟩ := h
  exact pe_call F hr hg hm hk hb .nil hx ha hdb he hpl
theorem pe_fn0 (h : Has X.prog X.w X.K X.mg X.base C k x ps sp) (hr : Room k X.A) (hx : Passes C X E) (hg : Gl X x := by rfl) (hdb : (x == ("__debug__" : Str)) = false := by decide) : PE X (.Call (.Name x p) [] [] pos) (tCall sp [] E tNil) := by
  obtain ⟨f, fd, F, hm, hk, hb, _⟩ := h
  exact pe_call0 F hr hg hm hk hb .nil hx hdb
end
theorem pe_const {X : Cx} {x : Str} {i : Int} {pos : Pos} (hg : Gl X x) (h : ∃ t, X.mg x = some (.int i t)) (hd : (x == ("__debug__" : Str)) = false := by decide) : PE X (.Name x pos) (tC (.int i)) := by
  obtain ⟨t, e⟩ := h
  exact pe_glob hg e ⟨_, rfl⟩ hd
/-! ### sizes of ints -/
/-- of less than n bits -/
structure Bn (n : Nat) (x : Int) : Prop where
  lt : x.natAbs < 2 ^ n
theorem Bn.mono {n m : Nat} {x : Int} (h : Bn n x) (l : n ≤ m) : Bn m x := ⟨Nat.lt_of_lt_of_le h.lt (Nat.pow_le_pow_right (by decide) l)⟩
theorem bnl {n : Nat} {x : Int} (h : x.natAbs < 2 ^ n) : Bn n x := ⟨h⟩
theorem bn0 {n : Nat} : Bn n 0 := ⟨Nat.two_pow_pos _⟩
theorem Bn.mul {n m : Nat} {x y : Int} (h : Bn n x) (k : Bn m y) : Bn (n + m) (x * y) := ⟨wide_lt h.lt k.lt⟩
theorem Bn.add {n m : Nat} {x y : Int} (h : Bn n x) (k : Bn m y) : Bn (n + m + 1) (x + y) := by
  have h1 : x.natAbs < 2 ^ n := h.lt
  have h2 : y.natAbs < 2 ^ m := k.lt
  have a : 2 ^ n ≤ 2 ^ (n + m) := Nat.pow_le_pow_right (by decide) (by omega)
  have b : 2 ^ m ≤ 2 ^ (n + m) := Nat.pow_le_pow_right (by decide) (by omega)
  have c : 2 ^ (n + m + 1) = 2 ^ (n + m) * 2 := Nat.pow_succ 2 (n + m)
  have d := Int.natAbs_add_le x y
  refine ⟨?_⟩
  omega
theorem Bn.le {n : Nat} {x y : Int} (h : Bn n y) (l : x.natAbs ≤ y.natAbs) : Bn n x := ⟨Nat.lt_of_le_of_lt l h.lt⟩
theorem Bn.of_le {n : Nat} {x y : Int} (h : Bn n y) (h0 : 0 ≤ x) (l : x ≤ y) : Bn n x := h.le (by omega)
theorem Bn.neg {n : Nat} {x : Int} (h : Bn n x) : Bn n (-x) := h.le (by omega)
theorem Bn.sub {n m : Nat} {x y : Int} (h : Bn n x) (k : Bn m y) : Bn (n + m + 1) (x - y) := by
  rw [Int.sub_eq_add_neg]
  exact h.add k.neg
theorem Bn.mulOk {n m : Nat} {x y : Int} (h : Bn n x) (k : Bn m y) (l : n + m ≤ 134217728) : CMulX x y := mulx_ok h.lt k.lt l
theorem Bn.divOk {n : Nat} {x y : Int} (k : Bn n y) (p : 0 < y) (h0 : 0 < n) (l : n ≤ 9000) : CDivW x y := wide_div p k.lt h0 l
theorem divOk_lit {x : Int} {y : Int} (p : 0 < y) (l : y < 4294967296) : CDivW x y := wide_div (b := 32) p (by omega) (by decide) (by decide)
theorem Bn.div {n : Nat} {x y : Int} (h : Bn n x) (p : 0 < y) : Bn n (x / y) := by
  refine h.le ?_
  have a := Int.emod_add_mul_ediv x y
  have b := Int.emod_nonneg x (Int.ne_of_gt p)
  have c := Int.emod_lt_of_pos x p
  rcases Int.lt_or_le x 0 with hx | hx
  · -- x < 0: x / y ≥ x
    have d : x / y < 0 := Int.ediv_neg_of_neg_of_pos hx p
    have e : y * (x / y) ≤ 1 * (x / y) := Int.mul_le_mul_of_nonpos_right (by omega) (by omega)
    rcases Int.lt_or_le (x / y) x with f | f
    · have q1 : y * (x / y) ≤ y * (x - 1) := Int.mul_le_mul_of_nonneg_left (by omega) (by omega)
      have q2 : y * (x - 1) = y * x - y := by rw [Int.mul_sub, Int.mul_one]
      have q3 : y * x ≤ 1 * x := Int.mul_le_mul_of_nonpos_right (by omega) (by omega)
      omega
    · omega
  · have d : 0 ≤ x / y := Int.ediv_nonneg hx (Int.le_of_lt p)
    have e : 1 * (x / y) ≤ y * (x / y) := Int.mul_le_mul_of_nonneg_right (by omega) d
    omega
theorem Bn.mod {n : Nat} {x y : Int} (h : Bn n y) (p : 0 < y) : Bn n (x % y) := h.of_le (Int.emod_nonneg x (Int.ne_of_gt p)) (Int.le_of_lt (Int.emod_lt_of_pos x p))
theorem bn_bits {n : Nat} {x : Int} (h : Builtin.Int.intBits x ≤ n) : Bn (n + 1) x := by
  unfold Builtin.Int.intBits at h
  refine ⟨?_⟩
  split at h
  · rename_i z
    have e : x = 0 := by simpa using z
    rw [e]
    exact Nat.two_pow_pos _
  · have a : x.natAbs < 2 ^ (x.natAbs.log2 + 1) := Nat.lt_log2_self
    exact Nat.lt_of_lt_of_le a (Nat.pow_le_pow_right (by decide) (by omega))
theorem mulOk_left {x y : Int} (h : x.natAbs < 4294967296) (k : Bn 100000000 y) : CMulX x y := mulx_ok (a := 32) h k.lt (by decide)
/-- a size of the program: from 1 on, of less than so many bits -/
structure Sz (x : Int) : Prop where
  pos : 0 < x
  bn : Bn 2000 x
/-! ### heaps that grow -/
theorem same_upd {H : Hp} {p : Addr} {o : HO} (h : H p = none) : Same H (upd H p o) := fun b x e => by
  rw [upd_ne (ne_of_none e h)]
  exact e
theorem newH {H H2 : Hp} {p : Addr} {o : HO} (e : upd H p o = H2) (hp : H p = none) : Same H H2 ∧ H2 p = some o := by
  rw [← e]
  exact ⟨same_upd hp, upd_same⟩
theorem Same.tup {K : PySem.W.Frag} {H H' : Hp} {a : Addr} {xs : List V} (e : Same H H') (h : SqT K H a xs) : SqT K H' a xs := by
  rcases h with (h | ⟨o, h⟩) | h
  · exact .inl (.inl (e _ _ h))
  · exact .inl (.inr ⟨o, e _ _ h⟩)
  · exact .inr h
theorem sqL {K : PySem.W.Frag} {H : Hp} {a : Addr} {xs : List V} (h : H a = some (.lst xs)) : SqL K H a xs := .inl (.inl h)
theorem sqT {K : PySem.W.Frag} {H : Hp} {a : Addr} {xs : List V} (h : H a = some (.tup xs)) : SqT K H a xs := .inl (.inl h)
/-- the int that a slot holds, as a measure -/
def slotN (σ : L2.St) (i : Nat) : Nat := match σ[i]? with
  | some (some (.int n)) => n.toNat
  | _ => 0
section
variable {A B : Prop} {i j : Int}
theorem iteD {p : Prop} [Decidable p] (h1 : p → A) (h2 : ¬ p → B) : if decide p = true then A else B := ite2 (fun c => h1 (of_decide_eq_true c)) fun c => h2 fun z => c (decide_eq_true z)
theorem iteEq (h1 : i = j → A) (h2 : i ≠ j → B) : if decide (V.int i = V.int j) = true then A else B := iteD (fun c => h1 (V.int.inj c)) fun c => h2 fun z => c (by rw [z])
theorem iteNe (h1 : i ≠ j → A) (h2 : i = j → B) : if (!decide (V.int i = V.int j)) = true then A else B := by
  by_cases c : i = j
  · rw [decide_eq_true (show V.int i = V.int j by rw [c])]
    exact iteF (h2 c)
  · rw [decide_eq_false (show ¬ V.int i = V.int j from fun z => c (V.int.inj z))]
    exact iteT (h1 c)
theorem iteP {p : Prop} [Decidable p] (hp : p) (h : A) : if decide p = true then A else B := by
  rw [decide_eq_true hp]
  exact iteT h
theorem iteN {p : Prop} [Decidable p] (hp : ¬ p) (h : B) : if decide p = true then A else B := by
  rw [decide_eq_false hp]
  exact iteF h
theorem iteNP {p : Prop} [Decidable p] (hp : p) (h : B) : if (!decide p) = true then A else B := by
  rw [decide_eq_true hp]
  exact iteF h
theorem iteNN {p : Prop} [Decidable p] (hp : ¬ p) (h : A) : if (!decide p) = true then A else B := by
  rw [decide_eq_false hp]
  exact iteT h
theorem iteB {b : Bool} (h1 : b = true → A) (h2 : b = false → B) : if b = true then A else B := by
  cases b with
  | true => exact iteT (h1 rfl)
  | false => exact iteF (h2 rfl)
end
def rLen2 (K : PySem.W.Frag) : List V → Hp → VK → Prop := fun xs H Q => ∃ p ys, xs = [.ref p] ∧ (SqL K H p ys ∨ SqT K H p ys) ∧ Q (.int ys.length) H
theorem lc_yes {σ : L2.St} {H : Hp} {A B : Hp → Prop} (h : A H) : tYes σ H fun b H3 => if b = true then A H3 else B H3 := by
  show if true = true then A H else B H
  rw [if_pos rfl]
  exact h
/-- if t: .. where t is not so, in whatever way it is told -/
theorem if_no {T : TT} {R U : TS} {D : Ends} {σ : L2.St} {H H' : Hp} (hT : ∀ r : Bool → Hp → Prop, r false H' → T σ H r) (hU : U D σ H') : tSeq (tIfS T R tNext) U D σ H :=
  hT _ (by
    show if false = true then _ else _
    exact iteF hU)
theorem tn {D : Ends} {σ : L2.St} {H : Hp} (h : D.nx σ H) : tNext D σ H := h
theorem mul_in {x y A B : Int} (hx : 0 ≤ x) (ha : x ≤ A) (hy : 0 ≤ y) (hb : y ≤ B) : 0 ≤ x * y ∧ x * y ≤ A * B :=
  ⟨Int.mul_nonneg hx hy, Int.le_trans (Int.mul_le_mul_of_nonneg_left hb hx) (Int.mul_le_mul_of_nonneg_right ha (Int.le_trans hy hb))⟩
/-- go on from a word -/
theorem enter {t : TS} {D : Ends} {σ : L2.St} {H : Hp} (M : L2.St → Hp → Prop) (h : M σ H) (k : ∀ σ H, M σ H → t D σ H) : t D σ H := k σ H h
theorem u65 {k : Nat} {A : Around} (r : Room k A) : A.units + 65 < cLine := by have := r.un; omega
theorem size4 {n : Nat} (h : n ≤ 1000000) : n ≤ sizeLine := Nat.le_trans h (by decide)
end BF

/-! Plain mathematics: a size as a sum of two others, the fewest of the first one. -/
namespace BF
/-- m of the first and n of the second make the size -/
def Rep (s a b m n : Int) : Prop := 0 ≤ m ∧ 0 ≤ n ∧ m * a + n * b = s
def IsParts (s a b : Int) : Option (Int × Int) → Prop
  | none => ∀ m n, ¬ Rep s a b m n
  | some x => Rep s a b x.1 x.2 ∧ ∀ m n, Rep s a b m n → x.1 ≤ m
theorem IsParts.unique {s a b : Int} (hb : 0 < b) : ∀ {x y : Option (Int × Int)}, IsParts s a b x → IsParts s a b y → x = y
  | none, none, _, _ => rfl
  | none, some y, h, k => absurd k.1 (h _ _)
  | some x, none, h, k => absurd h.1 (k _ _)
  | some (m, n), some (m', n'), h, k => by
    have h1 := h.2 _ _ k.1
    have h2 := k.2 _ _ h.1
    have e : m = m' := Int.le_antisymm h1 h2
    subst e
    have e1 := h.1.2.2
    have e2 := k.1.2.2
    simp only at e1 e2
    have e3 : n * b = n' * b := by omega
    have e4 : n = n' := Int.eq_of_mul_eq_mul_right (Int.ne_of_gt hb) e3
    rw [e4]
open Classical in
/-- how s is a sum of a and b -/
noncomputable def parts (s a b : Int) : Option (Int × Int) := if h : ∃ x, IsParts s a b x then h.choose else none
theorem parts_eq {s a b : Int} {x : Option (Int × Int)} (hb : 0 < b) (h : IsParts s a b x) : parts s a b = x := by
  unfold parts
  have e : ∃ x, IsParts s a b x := ⟨x, h⟩
  rw [dif_pos e]
  exact IsParts.unique hb e.choose_spec h
/-- g goes into both, t of the first leave it by the second -/
structure Good (a b g t : Int) : Prop where
  pos : 0 < g
  ga : g ∣ a
  gb : g ∣ b
  mod : b ∣ t * a - g
theorem few_core {s a b g t : Int} (ha : 0 < a) (hb : 0 < b) (G : Good a b g t) (hs : g ∣ s) :
    b ∣ s - (s / g * t % (b / g)) * a ∧ 0 ≤ s / g * t % (b / g) ∧ ∀ m, 0 ≤ m → b ∣ s - m * a → s / g * t % (b / g) ≤ m := by
  obtain ⟨hg, ⟨a', ea⟩, ⟨b', eb⟩, ⟨k, ek⟩⟩ := G
  obtain ⟨s', es⟩ := hs
  have hb' : 0 < b' := by
    have h2 : 0 < g * b' := by rw [← eb]; exact hb
    rcases Int.lt_or_le 0 b' with h | h
    · exact h
    · have h3 : g * b' ≤ g * 0 := Int.mul_le_mul_of_nonneg_left h (Int.le_of_lt hg)
      omega
  have e1 : s / g = s' := by rw [es]; exact Int.mul_ediv_cancel_left s' (Int.ne_of_gt hg)
  have e2 : b / g = b' := by rw [eb]; exact Int.mul_ediv_cancel_left b' (Int.ne_of_gt hg)
  rw [e1, e2]
  have hmod := Int.emod_add_mul_ediv (s' * t) b'
  generalize hf : s' * t % b' = f at hmod ⊢
  generalize s' * t / b' = q at hmod
  have h0 : 0 ≤ f := by rw [← hf]; exact Int.emod_nonneg _ (Int.ne_of_gt hb')
  have h1 : f < b' := by rw [← hf]; exact Int.emod_lt_of_pos _ hb'
  have key : b ∣ s - f * a := by
    -- f = s't - b'q, so s - f a = s - s't a + b' q a = s - s'(g + bk) + b'q g a' = b (q a' - s' k)
    refine ⟨q * a' - s' * k, ?_⟩
    have ef : f = s' * t - b' * q := by omega
    have et : t * a = g + b * k := by omega
    calc s - f * a = s - (s' * t - b' * q) * a := by rw [ef]
      _ = s - s' * (t * a) + b' * q * a := by rw [Int.sub_mul, Int.mul_assoc s' t a]; omega
      _ = s - s' * (g + b * k) + b' * q * (g * a') := by rw [et, ← ea]
      _ = b * (q * a' - s' * k) := by
        rw [Int.mul_add, Int.mul_sub, es, eb]
        have x1 : s' * g = g * s' := Int.mul_comm _ _
        have x2 : s' * (g * b' * k) = g * b' * (s' * k) := by
          rw [Int.mul_left_comm]
        have x3 : b' * q * (g * a') = g * b' * (q * a') := by
          rw [Int.mul_comm g b', Int.mul_assoc b' q, Int.mul_assoc b' g, Int.mul_left_comm q g a']
        rw [x1, x2, x3]
        omega
  refine ⟨key, h0, fun m hm hd => ?_⟩
  -- b | (m - f) a, so b | (m - f) g, so b' | m - f
  have d1 : b ∣ (m - f) * a := by
    have : (m - f) * a = (s - f * a) - (s - m * a) := by rw [Int.sub_mul]; omega
    rw [this]
    exact Int.dvd_sub key hd
  have d2 : b ∣ (m - f) * g := by
    have e3 : (m - f) * g = (m - f) * a * t - b * ((m - f) * k) := by
      have et : t * a = g + b * k := by omega
      have : (m - f) * a * t = (m - f) * (t * a) := by rw [Int.mul_assoc, Int.mul_comm a t]
      rw [this, et, Int.mul_add, Int.mul_left_comm (m - f) b k]
      omega
    rw [e3]
    exact Int.dvd_sub (Int.dvd_trans d1 (Int.dvd_mul_right _ _)) (Int.dvd_mul_right _ _)
  have d3 : b' ∣ m - f := by
    obtain ⟨c, ec⟩ := d2
    refine ⟨c, ?_⟩
    have : g * (m - f) = g * (b' * c) := by rw [Int.mul_comm g (m - f), ec, eb, Int.mul_assoc]
    exact Int.eq_of_mul_eq_mul_left (Int.ne_of_gt hg) this
  obtain ⟨c, ec⟩ := d3
  -- m = f + b' c with m ≥ 0, f < b': c ≥ 0
  have hc : 0 ≤ c := by
    rcases Int.lt_or_le c 0 with hc | hc
    · have h2 : b' * c ≤ b' * (-1) := Int.mul_le_mul_of_nonneg_left (by omega) (Int.le_of_lt hb')
      omega
    · exact hc
  have h3 : 0 ≤ b' * c := Int.mul_nonneg (Int.le_of_lt hb') hc
  omega
theorem parts_good {s a b g t : Int} (ha : 0 < a) (hb : 0 < b) (G : Good a b g t) :
    parts s a b = if s % g ≠ 0 then none else if s / g * t % (b / g) * a > s then none else some (s / g * t % (b / g), (s - s / g * t % (b / g) * a) / b) := by
  refine parts_eq hb ?_
  by_cases hs : s % g ≠ 0
  · rw [if_pos hs]
    rintro m n ⟨_, _, e⟩
    refine hs (Int.emod_eq_zero_of_dvd ?_)
    rw [← e]
    exact Int.dvd_add (Int.dvd_trans G.ga (Int.dvd_mul_left _ _)) (Int.dvd_trans G.gb (Int.dvd_mul_left _ _))
  · rw [if_neg hs]
    have hd : g ∣ s := Int.dvd_of_emod_eq_zero (by omega)
    obtain ⟨k1, k2, k3⟩ := few_core ha hb G hd
    generalize s / g * t % (b / g) = f at k1 k2 k3
    have least : ∀ m n, Rep s a b m n → f ≤ m := fun m n ⟨h1, h2, h3⟩ => k3 m h1 ⟨n, by rw [Int.mul_comm b n]; omega⟩
    by_cases hf : f * a > s
    · rw [if_pos hf]
      rintro m n R
      have l := least m n R
      obtain ⟨h1, h2, h3⟩ := R
      have p1 : f * a ≤ m * a := Int.mul_le_mul_of_nonneg_right l (Int.le_of_lt ha)
      have p2 : 0 ≤ n * b := Int.mul_nonneg h2 (Int.le_of_lt hb)
      omega
    · rw [if_neg hf]
      refine ⟨⟨k2, Int.ediv_nonneg (by omega) (Int.le_of_lt hb), ?_⟩, least⟩
      show f * a + (s - f * a) / b * b = s
      rw [Int.ediv_mul_cancel k1]
      omega
/-- the law's number: the fewest of the first, -1 where there is none -/
def fewI : Option (Int × Int) → Int
  | none => -1
  | some x => x.1
theorem parts_some {s a b m n : Int} (hb : 0 < b) (h : parts s a b = some (m, n)) (ex : ∃ x, IsParts s a b x) : IsParts s a b (some (m, n)) := by
  obtain ⟨x, hx⟩ := ex
  have e := parts_eq hb hx
  rw [h] at e
  rw [e]
  exact hx
end BF

/-! ### plain mathematics of the loop in shared -/
namespace BF
structure ShInv (a b one other mine theirs : Int) : Prop where
  o1 : 0 < one
  o2 : 0 ≤ other
  l1 : one ≤ a ∨ one ≤ b
  l2 : other ≤ b
  dv : ∀ d : Int, (d ∣ one ∧ d ∣ other) ↔ (d ∣ a ∧ d ∣ b)
  m1 : b ∣ mine * a - one
  m2 : b ∣ theirs * a - other
  bd : ∃ M T : Int, 0 ≤ M ∧ 0 ≤ T ∧ M ≤ b ∧ T ≤ b ∧ T * one + M * other = b ∧ ((mine = M ∧ theirs = -T) ∨ (mine = -M ∧ theirs = T))
theorem ShInv.start {a b : Int} (ha : 0 < a) (hb : 0 < b) : ShInv a b a b 1 0 where
  o1 := ha
  o2 := Int.le_of_lt hb
  l1 := .inl (Int.le_refl _)
  l2 := Int.le_refl _
  dv := fun d => Iff.rfl
  m1 := by rw [Int.one_mul, Int.sub_self]; exact Int.dvd_zero b
  m2 := by rw [Int.zero_mul, Int.zero_sub]; exact Int.dvd_neg.mpr (Int.dvd_refl b)
  bd := ⟨1, 0, by omega, by omega, by omega, by omega, by omega, .inl ⟨rfl, by omega⟩⟩
theorem ShInv.turn {a b one other mine theirs : Int} (h : ShInv a b one other mine theirs) (ho : 0 < other) :
    ShInv a b other (one - one / other * other) theirs (mine - one / other * theirs) ∧ one - one / other * other < other ∧ 0 ≤ one - one / other * other := by
  obtain ⟨o1, o2, l1, l2, dv, m1, m2, M, T, hM, hT, lM, lT, e, sg⟩ := h
  have hm : one - one / other * other = one % other := by
    have := Int.emod_add_mul_ediv one other
    rw [Int.mul_comm] at this
    omega
  have h0 : 0 ≤ one % other := Int.emod_nonneg _ (Int.ne_of_gt ho)
  have h1 : one % other < other := Int.emod_lt_of_pos _ ho
  have hq : 0 ≤ one / other := Int.ediv_nonneg (Int.le_of_lt o1) o2
  refine ⟨?_, by omega, by omega⟩
  generalize hqq : one / other = q at *
  have key : (M + q * T) * other + T * (one - q * other) = b := by
    have x1 : (M + q * T) * other = M * other + q * T * other := Int.add_mul _ _ _
    have x2 : T * (one - q * other) = T * one - q * T * other := by rw [Int.mul_sub, ← Int.mul_assoc, Int.mul_comm T q]
    omega
  have hqT : 0 ≤ q * T := Int.mul_nonneg hq hT
  have hn : 0 ≤ T * (one - q * other) := Int.mul_nonneg hT (by omega)
  have l3 : M + q * T ≤ b := by
    have : (M + q * T) * 1 ≤ (M + q * T) * other := Int.mul_le_mul_of_nonneg_left (by omega) (by omega)
    omega
  refine ⟨ho, by omega, .inr l2, by omega, fun d => ?_, m2, ?_, T, M + q * T, hT, by omega, lT, l3, key, ?_⟩
  · rw [← dv d]
    constructor
    · rintro ⟨a1, a2⟩
      refine ⟨?_, a1⟩
      have : one = (one - q * other) + q * other := by omega
      rw [this]
      exact Int.dvd_add a2 (Int.dvd_trans a1 (Int.dvd_mul_left _ _))
    · rintro ⟨a1, a2⟩
      exact ⟨a2, Int.dvd_sub a1 (Int.dvd_trans a2 (Int.dvd_mul_left _ _))⟩
  · have : (mine - q * theirs) * a - (one - q * other) = (mine * a - one) - q * (theirs * a - other) := by
      rw [Int.sub_mul, Int.mul_sub, Int.mul_assoc]
      omega
    rw [this]
    exact Int.dvd_sub m1 (Int.dvd_trans m2 (Int.dvd_mul_left _ _))
  · rcases sg with ⟨r1, r2⟩ | ⟨r1, r2⟩
    · right
      subst r1 r2
      refine ⟨rfl, ?_⟩
      rw [Int.mul_neg]
      omega
    · left
      subst r1 r2
      exact ⟨rfl, by omega⟩
theorem ShInv.done {a b one mine theirs : Int} (ha : 0 < a) (hb : 0 < b) (h : ShInv a b one 0 mine theirs) : Good a b one (mine % b) ∧ one ≤ b := by
  have d := (h.dv one).mp ⟨Int.dvd_refl _, Int.dvd_zero _⟩
  refine ⟨⟨h.o1, d.1, d.2, ?_⟩, Int.le_of_dvd hb d.2⟩
  have e : mine % b * a - one = (mine * a - one) - b * (mine / b * a) := by
    have := Int.emod_add_mul_ediv mine b
    have x : mine % b = mine - b * (mine / b) := by omega
    rw [x, Int.sub_mul, Int.mul_assoc]
    omega
  rw [e]
  exact Int.dvd_sub h.m1 (Int.dvd_mul_right _ _)
theorem ShInv.theirs_le {a b one other mine theirs : Int} (h : ShInv a b one other mine theirs) : theirs.natAbs ≤ b.natAbs ∧ mine.natAbs ≤ b.natAbs := by
  obtain ⟨M, T, hM, hT, lM, lT, _, sg⟩ := h.bd
  rcases sg with ⟨r1, r2⟩ | ⟨r1, r2⟩ <;> (subst r1 r2; omega)
end BF

/-! ### plain mathematics of the law's own reckoning: the divisions' rows, and the way back -/
namespace BF
/-- rows: the quotients of the divisions that begin at one, other -/
inductive Eu : Int → Int → List Int → Prop where
  | nil {one : Int} (h : 0 < one) : Eu one 0 []
  | cons {one other : Int} {r : List Int} (h1 : 0 < one) (h2 : 0 < other) (h : Eu other (one % other) r) : Eu one other (one / other :: r)
def back : List Int → Int × Int
  | [] => (1, 0)
  | q :: r => ((back r).2, (back r).1 - q * (back r).2)
theorem Eu.pos : ∀ {one other : Int} {r : List Int}, Eu one other r → 0 < one ∧ 0 ≤ other
  | _, _, _, .nil h => ⟨h, Int.le_refl _⟩
  | _, _, _, .cons h1 h2 _ => ⟨h1, Int.le_of_lt h2⟩
theorem Eu.back : ∀ {one other : Int} {r : List Int}, Eu one other r → ∃ g, 0 < g ∧ (∀ d : Int, d ∣ g ↔ d ∣ one ∧ d ∣ other) ∧ (back r).1 * one + (back r).2 * other = g ∧ (r ≠ [] → (BF.back r).1.natAbs ≤ other.natAbs ∧ (BF.back r).2.natAbs ≤ one.natAbs)
  | _, _, _, .nil (one := one) h => by
    refine ⟨one, h, fun d => ⟨fun e => ⟨e, Int.dvd_zero d⟩, fun e => e.1⟩, ?_, fun z => absurd rfl z⟩
    show (1 : Int) * one + 0 * 0 = one
    omega
  | _, _, _, .cons (one := one) (other := other) (r := r) h1 h2 h => by
    obtain ⟨g, hg, dv, e, bd⟩ := Eu.back h
    have hm := Int.emod_add_mul_ediv one other
    have hq : 0 ≤ one / other := Int.ediv_nonneg (Int.le_of_lt h1) (Int.le_of_lt h2)
    have hr0 : 0 ≤ one % other := Int.emod_nonneg _ (Int.ne_of_gt h2)
    refine ⟨g, hg, fun d => ?_, ?_, fun _ => ?_⟩
    · rw [dv d]
      constructor
      · rintro ⟨a1, a2⟩
        refine ⟨?_, a1⟩
        rw [← hm]
        exact Int.dvd_add a2 (Int.dvd_trans a1 (Int.dvd_mul_right _ _))
      · rintro ⟨a1, a2⟩
        refine ⟨a2, ?_⟩
        have : one % other = one - other * (one / other) := by omega
        rw [this]
        exact Int.dvd_sub a1 (Int.dvd_trans a2 (Int.dvd_mul_right _ _))
    · show (BF.back r).2 * one + ((BF.back r).1 - one / other * (BF.back r).2) * other = g
      generalize (BF.back r).1 = m at *
      generalize (BF.back r).2 = t at *
      generalize one / other = q at *
      have x1 : (m - q * t) * other = m * other - t * (other * q) := by
        rw [Int.sub_mul, Int.mul_comm q t, Int.mul_assoc, Int.mul_comm q other]
      have x2 : t * one = t * (one % other) + t * (other * q) := by rw [← Int.mul_add, hm]
      omega
    · show (BF.back r).2.natAbs ≤ other.natAbs ∧ ((BF.back r).1 - one / other * (BF.back r).2).natAbs ≤ one.natAbs
      cases r with
      | nil =>
        show (0 : Int).natAbs ≤ other.natAbs ∧ ((1 : Int) - one / other * 0).natAbs ≤ one.natAbs
        omega
      | cons q' r' =>
        obtain ⟨b1, b2⟩ := bd (by simp)
        refine ⟨b2, ?_⟩
        generalize (BF.back (q' :: r')).1 = m at *
        generalize (BF.back (q' :: r')).2 = t at *
        have x3 : (one / other * t).natAbs ≤ (other * (one / other)).natAbs := by
          rw [Int.natAbs_mul, Int.natAbs_mul, Nat.mul_comm other.natAbs]
          exact Nat.mul_le_mul_left _ b2
        have x4 : 0 ≤ other * (one / other) := Int.mul_nonneg (Int.le_of_lt h2) hq
        omega
theorem Eu.drop {B : Int} : ∀ {one other : Int} {r : List Int}, Eu one other r → one ≤ B → other ≤ B → ∀ k, k ≤ r.length → ∃ x y, Eu x y (r.drop k) ∧ x ≤ B ∧ y ≤ B
  | _, _, _, .nil h, l1, l2, k, hk => ⟨_, _, by rw [List.drop_nil]; exact .nil h, l1, l2⟩
  | _, _, _, .cons h1 h2 h, l1, l2, 0, _ => ⟨_, _, .cons h1 h2 h, l1, l2⟩
  | _, _, _, .cons (one := one) (other := other) h1 h2 h, l1, l2, k + 1, hk => by
    have h3 : one % other < other := Int.emod_lt_of_pos _ h2
    exact Eu.drop h l2 (by omega) k (by simpa using hk)
theorem emod_le_self {x y : Int} (h : 0 < x) (hy : 0 < y) : x % y ≤ x := by
  have hm := Int.emod_add_mul_ediv x y
  have hq : 0 ≤ x / y := Int.ediv_nonneg (Int.le_of_lt h) (Int.le_of_lt hy)
  have : 0 ≤ y * (x / y) := Int.mul_nonneg (Int.le_of_lt hy) hq
  omega
/-- the loop that gathers the rows -/
structure FwInv (a b : Int) (rows : List Int) (one other : Int) : Prop where
  o1 : 0 < one
  o2 : 0 ≤ other
  l1 : one ≤ a ∨ one ≤ b
  l2 : other ≤ b
  go : ∀ r, Eu one other r → Eu a b (rows ++ r)
  less : rows ≠ [] → other < one
  fst : rows = [] → one = a ∧ other = b
  len : one * other * 2 ^ rows.length ≤ 2 * (a * b)
theorem FwInv.start {a b : Int} (ha : 0 < a) (hb : 0 < b) : FwInv a b [] a b where
  o1 := ha
  o2 := Int.le_of_lt hb
  l1 := .inl (Int.le_refl _)
  l2 := Int.le_refl _
  go := fun r h => h
  less := fun z => absurd rfl z
  fst := fun _ => ⟨rfl, rfl⟩
  len := by
    have : 0 < a * b := Int.mul_pos ha hb
    show a * b * 1 ≤ 2 * (a * b)
    omega
theorem FwInv.turn {a b one other : Int} {rows : List Int} (h : FwInv a b rows one other) (ho : 0 < other) : FwInv a b (rows ++ [one / other]) other (one % other) := by
  obtain ⟨o1, o2, l1, l2, go, less, fst, len⟩ := h
  have h0 : 0 ≤ one % other := Int.emod_nonneg _ (Int.ne_of_gt ho)
  have h1 : one % other < other := Int.emod_lt_of_pos _ ho
  refine ⟨ho, h0, .inr l2, by omega, fun r hr => ?_, fun _ => h1, fun z => by simp at z, ?_⟩
  · rw [List.append_assoc]
    exact go _ (.cons o1 ho hr)
  · rw [List.length_append, List.length_singleton, Int.pow_succ]
    have hp : (0 : Int) ≤ 2 ^ rows.length := Int.pow_nonneg (by decide)
    cases rows with
    | nil =>
      show other * (one % other) * (1 * 2) ≤ 2 * (a * b)
      obtain ⟨e1, e2⟩ := fst rfl
      subst e1 e2
      have x : other * (one % other) ≤ other * one := Int.mul_le_mul_of_nonneg_left (emod_le_self o1 ho) o2
      rw [Int.mul_comm other one] at x
      omega
    | cons q r =>
      have hl := less (by simp)
      have x : 2 * (one % other) ≤ one := by
        have hm := Int.emod_add_mul_ediv one other
        have hq : 1 ≤ one / other := by
          rcases Int.lt_or_le (one / other) 1 with c | c
          · have : other * (one / other) ≤ other * 0 := Int.mul_le_mul_of_nonneg_left (by omega) o2
            omega
          · exact c
        have : other * 1 ≤ other * (one / other) := Int.mul_le_mul_of_nonneg_left hq o2
        omega
      have y : other * (one % other) * ((2 : Int) ^ (q :: r).length * 2) = (other * (2 * (one % other))) * 2 ^ (q :: r).length := by
        rw [Int.mul_comm ((2 : Int) ^ (q :: r).length) 2, ← Int.mul_assoc, Int.mul_assoc other, Int.mul_comm (one % other) 2]
      rw [y]
      refine Int.le_trans (Int.mul_le_mul_of_nonneg_right ?_ hp) len
      rw [Int.mul_comm one other]
      exact Int.mul_le_mul_of_nonneg_left x o2
theorem two_pow_cast (n : Nat) : ((2 ^ n : Nat) : Int) = (2 : Int) ^ n := by
  rw [Int.natCast_pow]
  rfl
/-- at most 4001 rows -/
theorem FwInv.few {a b one other : Int} {rows : List Int} (h : FwInv a b rows one other) (ho : 0 < other) (ha : a.natAbs < 2 ^ 2000) (hb : b.natAbs < 2 ^ 2000) : rows.length ≤ 4001 := by
  have e := h.len
  have h1 : 1 ≤ one * other := Int.mul_pos h.o1 ho
  have hp : (0 : Int) ≤ 2 ^ rows.length := by
    rw [← two_pow_cast]
    exact Int.natCast_nonneg _
  have h2 : (1 : Int) * 2 ^ rows.length ≤ one * other * 2 ^ rows.length := Int.mul_le_mul_of_nonneg_right h1 hp
  have h3 : (a * b).natAbs < 2 ^ 4000 := by
    rw [Int.natAbs_mul, show (4000 : Nat) = 2000 + 2000 from rfl, Nat.pow_add]
    exact Nat.mul_lt_mul'' ha hb
  have h4 : ((2 ^ rows.length : Nat) : Int) ≤ 2 * (a * b) := by
    rw [two_pow_cast]
    omega
  have h5 : 2 ^ rows.length < 2 ^ 4001 := by
    rw [show (4001 : Nat) = 4000 + 1 from rfl, Nat.pow_succ]
    generalize 2 ^ 4000 = Z at *
    generalize 2 ^ rows.length = Y at *
    omega
  have h6 : rows.length < 4001 := (Nat.pow_lt_pow_iff_right (by decide)).mp h5
  omega
/-- the law's way back gives what the program's way gives -/
theorem few_back {s a b g g2 : Int} {rows : List Int} (hs : 0 < s) (ha : 0 < a) (hb : 0 < b) (hg : 0 < g) (dg : ∀ d : Int, d ∣ g ↔ d ∣ a ∧ d ∣ b) (E : Eu (a / g) (b / g) rows) (hz : s % g = 0) :
    fewI (parts s a b) = if s / g * (back rows).1 % (b / g) * (a / g) ≤ s / g then s / g * (back rows).1 % (b / g) else -1 := by
  obtain ⟨da, db⟩ := (dg g).mp (Int.dvd_refl g)
  obtain ⟨a', ea⟩ := da
  obtain ⟨b', eb⟩ := db
  obtain ⟨s', es⟩ := Int.dvd_of_emod_eq_zero hz
  have e1 : s / g = s' := by rw [es]; exact Int.mul_ediv_cancel_left s' (Int.ne_of_gt hg)
  have e2 : b / g = b' := by rw [eb]; exact Int.mul_ediv_cancel_left b' (Int.ne_of_gt hg)
  have e3 : a / g = a' := by rw [ea]; exact Int.mul_ediv_cancel_left a' (Int.ne_of_gt hg)
  rw [e2, e3] at E
  obtain ⟨h, hh, dh, eh, _⟩ := E.back
  have h1 : h = 1 := by
    obtain ⟨x1, x2⟩ := (dh h).mp (Int.dvd_refl h)
    have d1 : g * h ∣ g := (dg _).mpr ⟨by rw [ea]; exact Int.mul_dvd_mul_left g x1, by rw [eb]; exact Int.mul_dvd_mul_left g x2⟩
    have l1 := Int.le_of_dvd hg d1
    rcases Int.lt_or_le 1 h with c | c
    · have : g * 2 ≤ g * h := Int.mul_le_mul_of_nonneg_left (by omega) (Int.le_of_lt hg)
      omega
    · omega
  have G : Good a b g (back rows).1 := by
    refine ⟨hg, ⟨a', ea⟩, ⟨b', eb⟩, -(back rows).2, ?_⟩
    rw [h1] at eh
    generalize (back rows).1 = m at *
    generalize (back rows).2 = t at *
    have x1 : m * a = g * (m * a') := by rw [ea, Int.mul_left_comm]
    have x2 : b * -t = -(g * (t * b')) := by rw [Int.mul_neg, eb, Int.mul_assoc, Int.mul_comm b' t]
    have x3 : g * (m * a' + t * b') = g * 1 := by rw [eh]
    rw [Int.mul_add] at x3
    omega
  rw [parts_good ha hb G, if_neg (by simp [hz]), e1, e2, e3]
  have key : (s' * (back rows).1 % b' * a > s) ↔ ¬ (s' * (back rows).1 % b' * a' ≤ s') := by
    generalize s' * (back rows).1 % b' = f
    have x : f * a = g * (f * a') := by rw [ea, Int.mul_left_comm]
    rw [x, es]
    constructor
    · intro q z
      have := Int.mul_le_mul_of_nonneg_left z (Int.le_of_lt hg)
      omega
    · intro q
      have := Int.mul_lt_mul_of_pos_left (show s' < f * a' by omega) hg
      omega
  by_cases c : s' * (back rows).1 % b' * a' ≤ s'
  · rw [if_neg (fun z => key.mp z c), if_pos c]
    rfl
  · rw [if_pos (key.mpr c), if_neg c]
    rfl
theorem few_none {s a b g : Int} (hb : 0 < b) (dg : ∀ d : Int, d ∣ g ↔ d ∣ a ∧ d ∣ b) (hz : s % g ≠ 0) : fewI (parts s a b) = -1 := by
  have e : parts s a b = none := parts_eq hb (x := none) (by
    rintro m n ⟨_, _, e⟩
    obtain ⟨x1, x2⟩ := (dg g).mp (Int.dvd_refl g)
    refine hz (Int.emod_eq_zero_of_dvd ?_)
    rw [← e]
    exact Int.dvd_add (Int.dvd_trans x1 (Int.dvd_mul_left _ _)) (Int.dvd_trans x2 (Int.dvd_mul_left _ _)))
  rw [e]
  rfl
end BF

/-! ### there is always an answer; a search among few -/
namespace BF
theorem eu_ex : ∀ (n : Nat) (a b : Int), 0 < a → 0 ≤ b → b.toNat ≤ n → ∃ rows, Eu a b rows
  | 0, a, b, ha, hb, h => by
    have e : b = 0 := by omega
    subst e
    exact ⟨[], .nil ha⟩
  | n + 1, a, b, ha, hb, h => by
    rcases Int.lt_or_le 0 b with c | c
    · have h0 : 0 ≤ a % b := Int.emod_nonneg _ (Int.ne_of_gt c)
      have h1 : a % b < b := Int.emod_lt_of_pos _ c
      obtain ⟨r, hr⟩ := eu_ex n b (a % b) c h0 (by omega)
      exact ⟨_, .cons ha c hr⟩
    · have e : b = 0 := by omega
      subst e
      exact ⟨[], .nil ha⟩
theorem good_ex {a b : Int} (ha : 0 < a) (hb : 0 < b) : ∃ g t, Good a b g t := by
  obtain ⟨rows, E⟩ := eu_ex _ a b ha (Int.le_of_lt hb) (Nat.le_refl _)
  obtain ⟨g, hg, dv, e, _⟩ := E.back
  obtain ⟨d1, d2⟩ := (dv g).mp (Int.dvd_refl g)
  refine ⟨g, (back rows).1, hg, d1, d2, -(back rows).2, ?_⟩
  rw [Int.mul_neg, Int.mul_comm b]
  omega
theorem parts_is {s a b : Int} (ha : 0 < a) (hb : 0 < b) : IsParts s a b (parts s a b) := by
  obtain ⟨g, t, G⟩ := good_ex ha hb
  have ex : ∃ x, IsParts s a b x := by
    by_cases hs : s % g ≠ 0
    · refine ⟨none, ?_⟩
      rintro m n ⟨_, _, e⟩
      refine hs (Int.emod_eq_zero_of_dvd ?_)
      rw [← e]
      exact Int.dvd_add (Int.dvd_trans G.ga (Int.dvd_mul_left _ _)) (Int.dvd_trans G.gb (Int.dvd_mul_left _ _))
    · have hd : g ∣ s := Int.dvd_of_emod_eq_zero (by omega)
      obtain ⟨k1, k2, k3⟩ := few_core ha hb G hd
      generalize s / g * t % (b / g) = f at k1 k2 k3
      have least : ∀ m n, Rep s a b m n → f ≤ m := fun m n ⟨h1, h2, h3⟩ => k3 m h1 ⟨n, by rw [Int.mul_comm b n]; omega⟩
      by_cases hf : f * a > s
      · refine ⟨none, ?_⟩
        rintro m n R
        have l := least m n R
        obtain ⟨h1, h2, h3⟩ := R
        have p1 : f * a ≤ m * a := Int.mul_le_mul_of_nonneg_right l (Int.le_of_lt ha)
        have p2 : 0 ≤ n * b := Int.mul_nonneg h2 (Int.le_of_lt hb)
        omega
      · refine ⟨some (f, (s - f * a) / b), ⟨k2, Int.ediv_nonneg (by omega) (Int.le_of_lt hb), ?_⟩, least⟩
        show f * a + (s - f * a) / b * b = s
        rw [Int.ediv_mul_cancel k1]
        omega
  obtain ⟨x, hx⟩ := ex
  rw [parts_eq hb hx]
  exact hx
theorem few_neg {s a b : Int} (ha : 0 < a) (hb : 0 < b) : fewI (parts s a b) < 0 ↔ parts s a b = none := by
  have h := parts_is (s := s) ha hb
  cases e : parts s a b with
  | none => simp [fewI]
  | some x =>
    rw [e] at h
    have := h.1.1
    simp only [fewI, reduceCtorEq, iff_false]
    omega
/-- the counts of the first below n that leave a multiple of the second -/
def hits (s a b : Int) (n : Nat) : List Int := ((List.range n).filter (fun m : Nat => decide ((s - (m : Int) * a) % b = 0))).map (fun m : Nat => (m : Int))
theorem hits_succ (s a b : Int) (n : Nat) : hits s a b (n + 1) = hits s a b n ++ (if (s - (n : Int) * a) % b = 0 then [(n : Int)] else []) := by
  unfold hits
  rw [List.range_succ, List.filter_append, List.map_append]
  congr 1
  by_cases c : (s - (n : Int) * a) % b = 0
  · rw [if_pos c]
    simp [List.filter_cons, c]
  · rw [if_neg c]
    simp [List.filter_cons, c]
theorem hits_len (s a b : Int) (n : Nat) : (hits s a b n).length ≤ n := by
  unfold hits
  rw [List.length_map]
  exact Nat.le_trans (List.length_filter_le _ _) (by rw [List.length_range]; exact Nat.le_refl _)
theorem hits_few {s a b : Int} (hs : 0 < s) (ha : 0 < a) (hb : 0 < b) : (hits s a b (s / a + 1).toNat ++ [-1])[0]? = some (fewI (parts s a b)) := by
  have hq : 0 ≤ s / a := Int.ediv_nonneg (Int.le_of_lt hs) (Int.le_of_lt ha)
  have hm := Int.emod_add_mul_ediv s a
  have hr := Int.emod_nonneg s (Int.ne_of_gt ha)
  have rep : ∀ m : Nat, m < (s / a + 1).toNat → (s - (m : Int) * a) % b = 0 → Rep s a b m ((s - (m : Int) * a) / b) := fun m hl hz => by
    have l1 : (m : Int) ≤ s / a := by omega
    have l2 : a * (m : Int) ≤ a * (s / a) := Int.mul_le_mul_of_nonneg_left l1 (Int.le_of_lt ha)
    rw [Int.mul_comm a (m : Int)] at l2
    refine ⟨Int.natCast_nonneg m, Int.ediv_nonneg (by omega) (Int.le_of_lt hb), ?_⟩
    rw [Int.ediv_mul_cancel (Int.dvd_of_emod_eq_zero hz)]
    omega
  have h := parts_is (s := s) ha hb
  cases e : parts s a b with
  | none =>
    rw [e] at h
    have e0 : hits s a b (s / a + 1).toNat = [] := by
      unfold hits
      rw [List.filter_eq_nil_iff.mpr fun m hm2 => ?_]
      · rfl
      · intro z
        exact h _ _ (rep m (List.mem_range.mp hm2) (of_decide_eq_true z))
    rw [e0]
    rfl
  | some x =>
    rw [e] at h
    obtain ⟨⟨h1, h2, h3⟩, least⟩ := h
    obtain ⟨m, n⟩ := x
    simp only at h1 h2 h3 least
    obtain ⟨k, rfl⟩ := Int.eq_ofNat_of_zero_le h1
    have n0 : 0 ≤ n * b := Int.mul_nonneg h2 (Int.le_of_lt hb)
    have kl : (k : Int) ≤ s / a := by
      rcases Int.lt_or_le (s / a) k with c | c
      · have hl := Int.emod_lt_of_pos s ha
        have : a * (s / a + 1) ≤ a * (k : Int) := Int.mul_le_mul_of_nonneg_left (by omega) (Int.le_of_lt ha)
        rw [Int.mul_add, Int.mul_one, Int.mul_comm a (k : Int)] at this
        omega
      · exact c
    have hf : (List.range (s / a + 1).toNat).find? (fun m : Nat => decide ((s - (m : Int) * a) % b = 0)) = some k := by
      rw [List.find?_range_eq_some]
      refine ⟨decide_eq_true ?_, List.mem_range.mpr (by omega), fun j hj => ?_⟩
      · have : s - (k : Int) * a = n * b := by omega
        rw [this]
        exact Int.mul_emod_left n b
      · rw [Bool.not_eq_true', decide_eq_false_iff_not]
        intro z
        have := least _ _ (rep j (by omega) z)
        omega
    have hh : (hits s a b (s / a + 1).toNat)[0]? = some (k : Int) := by
      unfold hits
      rw [List.getElem?_map, ← List.head?_eq_getElem?, List.head?_filter, hf]
      rfl
    rw [List.getElem?_append_left (by
      rw [List.getElem?_eq_some_iff] at hh
      exact hh.1), hh]
    rfl
end BF

namespace BF
open PySem PySem.Spec PyProof.Rows L2
def topS (i : Nat) : Stmt := PySem.Challenge.pw_brickfloor_k10_handed_stays.main.body.getD i (.Pass ⟨0, 0, 0, 0⟩)
abbrev s_is_number : Stmt := topS 8
abbrev s_check_sizes : Stmt := topS 9
abbrev s_shared : Stmt := topS 10
abbrev s_parts_of : Stmt := topS 11
abbrev s_is_striped : Stmt := topS 14
abbrev s_what_bars : Stmt := topS 15
abbrev s_cells_of : Stmt := topS 16
abbrev s_is_beyond : Stmt := topS 17
abbrev s_covers : Stmt := topS 18
abbrev s_is_cell : Stmt := topS 19
abbrev s_often : Stmt := topS 20
abbrev s_Full_shows : Stmt := inClass (topS 21) 0
abbrev s_Beyond___init__ : Stmt := inClass (topS 22) 0
abbrev s_Beyond_shows : Stmt := inClass (topS 22) 1
abbrev s_Twice___init__ : Stmt := inClass (topS 23) 0
abbrev s_Twice_shows : Stmt := inClass (topS 23) 1
abbrev s_Bare___init__ : Stmt := inClass (topS 24) 0
abbrev s_Bare_shows : Stmt := inClass (topS 24) 1
abbrev s_is_brick : Stmt := topS 27
abbrev s_judged : Stmt := topS 28
abbrev s_check_laid : Stmt := topS 30
abbrev s_plan : Stmt := topS 31
abbrev s_brick_on : Stmt := topS 32
abbrev s__law_copied : Stmt := topS 34
abbrev s__law_spoiled : Stmt := topS 35
abbrev s__law_laid : Stmt := topS 36
abbrev s__law_door_right : Stmt := topS 37
abbrev s__law_floor : Stmt := topS 38
abbrev s__law_told : Stmt := topS 39
abbrev s__law_free_right : Stmt := topS 40
abbrev s_law : Stmt := topS 41
theorem sc_is_number : FnScope ["thing"] ["thing"] (defScope s_is_number) := ⟨rfl, rfl, rfl, by decide +kernel, rfl, by decide +kernel, by decide +kernel⟩
theorem sc_check_sizes : FnScope ["some", "one"] ["some"] (defScope s_check_sizes) := ⟨rfl, rfl, rfl, by decide +kernel, rfl, by decide +kernel, by decide +kernel⟩
theorem sc_shared : FnScope ["one", "other", "mine", "theirs", "by", "often"] ["one", "other"] (defScope s_shared) := ⟨rfl, rfl, rfl, by decide +kernel, rfl, by decide +kernel, by decide +kernel⟩
theorem sc_parts_of : FnScope ["size", "first", "second", "by", "turned", "few"] ["size", "first", "second"] (defScope s_parts_of) := ⟨rfl, rfl, rfl, by decide +kernel, rfl, by decide +kernel, by decide +kernel⟩
theorem sc_is_striped : FnScope ["length", "width", "side"] ["length", "width", "side"] (defScope s_is_striped) := ⟨rfl, rfl, rfl, by decide +kernel, rfl, by decide +kernel, by decide +kernel⟩
theorem sc_what_bars : FnScope ["length", "width", "first", "second", "striped", "short", "which", "side"] ["length", "width", "first", "second"] (defScope s_what_bars) := ⟨rfl, rfl, rfl, by decide +kernel, rfl, by decide +kernel, by decide +kernel⟩
theorem sc_cells_of : FnScope ["first", "second", "brick", "long", "high", "found", "along", "up"] ["first", "second", "brick"] (defScope s_cells_of) := ⟨rfl, rfl, rfl, by decide +kernel, rfl, by decide +kernel, by decide +kernel⟩
theorem sc_is_beyond : FnScope ["length", "width", "first", "second", "brick", "long", "high"] ["length", "width", "first", "second", "brick"] (defScope s_is_beyond) := ⟨rfl, rfl, rfl, by decide +kernel, rfl, by decide +kernel, by decide +kernel⟩
theorem sc_covers : FnScope ["first", "second", "brick", "cell", "long", "high"] ["first", "second", "brick", "cell"] (defScope s_covers) := ⟨rfl, rfl, rfl, by decide +kernel, rfl, by decide +kernel, by decide +kernel⟩
theorem sc_is_cell : FnScope ["length", "width", "thing"] ["length", "width", "thing"] (defScope s_is_cell) := ⟨rfl, rfl, rfl, by decide +kernel, rfl, by decide +kernel, by decide +kernel⟩
theorem sc_often : FnScope ["first", "second", "bricks", "cell", "brick"] ["first", "second", "bricks", "cell"] (defScope s_often) := ⟨rfl, rfl, rfl, by decide +kernel, rfl, by decide +kernel, by decide +kernel⟩
theorem sc_Full_shows : FnScope ["self", "length", "width", "first", "second", "bricks", "seen", "brick", "cell"] ["self", "length", "width", "first", "second", "bricks"] (defScope s_Full_shows) := ⟨rfl, rfl, rfl, by decide +kernel, rfl, by decide +kernel, by decide +kernel⟩
theorem sc_Beyond___init__ : FnScope ["self", "count"] ["self", "count"] (defScope s_Beyond___init__) := ⟨rfl, rfl, rfl, by decide +kernel, rfl, by decide +kernel, by decide +kernel⟩
theorem sc_Beyond_shows : FnScope ["self", "length", "width", "first", "second", "bricks"] ["self", "length", "width", "first", "second", "bricks"] (defScope s_Beyond_shows) := ⟨rfl, rfl, rfl, by decide +kernel, rfl, by decide +kernel, by decide +kernel⟩
theorem sc_Twice___init__ : FnScope ["self", "cell"] ["self", "cell"] (defScope s_Twice___init__) := ⟨rfl, rfl, rfl, by decide +kernel, rfl, by decide +kernel, by decide +kernel⟩
theorem sc_Twice_shows : FnScope ["self", "length", "width", "first", "second", "bricks"] ["self", "length", "width", "first", "second", "bricks"] (defScope s_Twice_shows) := ⟨rfl, rfl, rfl, by decide +kernel, rfl, by decide +kernel, by decide +kernel⟩
theorem sc_Bare___init__ : FnScope ["self", "cell"] ["self", "cell"] (defScope s_Bare___init__) := ⟨rfl, rfl, rfl, by decide +kernel, rfl, by decide +kernel, by decide +kernel⟩
theorem sc_Bare_shows : FnScope ["self", "length", "width", "first", "second", "bricks"] ["self", "length", "width", "first", "second", "bricks"] (defScope s_Bare_shows) := ⟨rfl, rfl, rfl, by decide +kernel, rfl, by decide +kernel, by decide +kernel⟩
theorem sc_is_brick : FnScope ["thing"] ["thing"] (defScope s_is_brick) := ⟨rfl, rfl, rfl, by decide +kernel, rfl, by decide +kernel, by decide +kernel⟩
theorem sc_judged : FnScope ["length", "width", "first", "second", "bricks", "count", "brick", "along", "up", "many"] ["length", "width", "first", "second", "bricks"] (defScope s_judged) := ⟨rfl, rfl, rfl, by decide +kernel, rfl, by decide +kernel, by decide +kernel⟩
theorem sc_check_laid : FnScope ["length", "width", "first", "second"] ["length", "width", "first", "second"] (defScope s_check_laid) := ⟨rfl, rfl, rfl, by decide +kernel, rfl, by decide +kernel, by decide +kernel⟩
theorem sc_plan : FnScope ["length", "width", "first", "second"] ["length", "width", "first", "second"] (defScope s_plan) := ⟨rfl, rfl, rfl, by decide +kernel, rfl, by decide +kernel, by decide +kernel⟩
theorem sc_brick_on : FnScope ["length", "width", "first", "second", "cell", "along", "up", "begin", "low", "corner"] ["length", "width", "first", "second", "cell"] (defScope s_brick_on) := ⟨rfl, rfl, rfl, by decide +kernel, rfl, by decide +kernel, by decide +kernel⟩
theorem sc__law_copied : FnScope ["_law_thing", "_law_one"] ["_law_thing"] (defScope s__law_copied) := ⟨rfl, rfl, rfl, by decide +kernel, rfl, by decide +kernel, by decide +kernel⟩
theorem sc__law_spoiled : FnScope ["_law_thing", "_law_one"] ["_law_thing"] (defScope s__law_spoiled) := ⟨rfl, rfl, rfl, by decide +kernel, rfl, by decide +kernel, by decide +kernel⟩
theorem sc__law_laid : FnScope ["_law_mine", "_law_other", "_law_at", "_law_one"] ["_law_mine", "_law_other"] (defScope s__law_laid) := ⟨rfl, rfl, rfl, by decide +kernel, rfl, by decide +kernel, by decide +kernel⟩
theorem sc__law_door_right : FnScope ["_law_ask", "_law_one", "_law_other", "_law_mine", "_law_given", "_law_before"] ["_law_ask", "_law_one", "_law_other"] (defScope s__law_door_right) := ⟨rfl, rfl, rfl, by decide +kernel, rfl, by decide +kernel, by decide +kernel⟩
theorem sc__law_floor : FnScope ["_law_wide", "_law_high", "_law_found", "_law_along", "_law_up", "_law_corner", "_law_lies"] ["_law_wide", "_law_high"] (defScope s__law_floor) := ⟨rfl, rfl, rfl, by decide +kernel, rfl, by decide +kernel, by decide +kernel⟩
theorem sc__law_told : FnScope ["_law_found"] ["_law_found"] (defScope s__law_told) := ⟨rfl, rfl, rfl, by decide +kernel, rfl, by decide +kernel, by decide +kernel⟩
theorem sc__law_free_right : FnScope ["_law_ask", "_law_holds", "_law_one", "_law_other", "_law_mine", "_law_things", "_law_found"] ["_law_ask", "_law_holds", "_law_one", "_law_other"] (defScope s__law_free_right) := ⟨rfl, rfl, rfl, by decide +kernel, rfl, by decide +kernel, by decide +kernel⟩
theorem sc_law : FnScope ["_law_script", "_law_cells", "_law_more", "_law_asks", "_law_frees", "_law_wide", "_law_high", "_law_length", "_law_up", "_law_bricks", "_law_twice", "_law_fewer", "_law_beyond", "_law_others", "_law_word", "_law_brick", "_law_ask", "_law_one", "_law_other", "_law_holds"] ["_law_script"] (defScope s_law) := ⟨rfl, rfl, rfl, by decide +kernel, rfl, by decide +kernel, by decide +kernel⟩
/-- the built-ins that the text names are free -/
structure Bi (mg : Str → Option Value) : Prop where
  ValueError : mg "ValueError" = none
  abs : mg "abs" = none
  all : mg "all" = none
  any : mg "any" = none
  bool : mg "bool" = none
  enumerate : mg "enumerate" = none
  int : mg "int" = none
  isinstance : mg "isinstance" = none
  len : mg "len" = none
  list : mg "list" = none
  range : mg "range" = none
  sum : mg "sum" = none
  tuple : mg "tuple" = none
end BF

/-! ### small helpers for the laws: the script's cells, picks out of four, sizes of drawn numbers -/
namespace BF
open PySem PySem.Spec PyProof.Rows L2
inductive SpLaw (K : PySem.W.Frag) : Sp where
  | mk {a : Addr} {ns : List Int} {H : Hp} {Q : VK} {E : XK} (hl : ns.length ≤ 63) (hb : ∀ z ∈ ns, Builtin.Int.intBits z ≤ 1048576) (hS : SqL K H a (ns.map V.int)) (q : ∀ H', Q (.bl true) H') : SpLaw K [.ref a] H Q E
theorem bn_of_lt {x : Int} (h0 : 0 ≤ x) (h : x < 10 ^ 60) : Bn 200 x := by
  refine ⟨?_⟩
  have e : (10 : Int) ^ 60 = ((10 ^ 60 : Nat) : Int) := by decide
  have l : (10 : Nat) ^ 60 < 2 ^ 200 := by decide
  rw [e] at h
  omega
theorem sz_of_lt {x : Int} (h0 : 0 < x) (h : x < 10 ^ 60) : Sz x := ⟨h0, (bn_of_lt (by omega) h).mono (by decide)⟩
theorem cut_map {α β : Type} (f : α → β) (xs : List α) (lo hi : Nat) : ((xs.map f).drop lo).take hi = ((xs.drop lo).take hi).map f := by
  rw [← List.map_drop, ← List.map_take]
theorem cut_ints (ns : List Int) (lo hi : Option Int) : ∃ ms : List Int, cutV (ns.map V.int) lo hi = ms.map V.int := by
  unfold cutV
  exact ⟨_, cut_map V.int ns _ _⟩
theorem at_cell {ns : List Int} {k : Int} (h0 : -(ns.length : Int) ≤ k) (h1 : k < ns.length) : ∃ c, c ∈ ns ∧ atI (ns.map V.int) k = some (.int c) := by
  rcases Int.lt_or_le k 0 with hk | hk
  · have hj : (k + ns.length).toNat < ns.length := by omega
    refine ⟨ns[(k + ns.length).toNat], List.getElem_mem _, ?_⟩
    have e : ixN (ns.map V.int).length k = some (k + ns.length).toNat := by
      unfold ixN
      rw [List.length_map, if_neg (by omega), if_pos (by omega)]
    unfold atI
    rw [e]
    show (ns.map V.int)[(k + ns.length).toNat]? = _
    rw [List.getElem?_map, List.getElem?_eq_getElem hj]
    rfl
  · have hj : k.toNat < ns.length := by omega
    refine ⟨ns[k.toNat], List.getElem_mem _, ?_⟩
    obtain ⟨j, rfl⟩ := Int.eq_ofNat_of_zero_le hk
    refine atI_nat ?_
    rw [List.getElem?_map]
    have hj2 : j < ns.length := by omega
    rw [List.getElem?_eq_getElem hj2]
    rfl
theorem pick4 {x0 x1 x2 x3 : V} {k : Int} (h0 : 0 ≤ k) (h4 : k < 4) : ∃ v, atI [x0, x1, x2, x3] k = some v ∧ (v = x0 ∨ v = x1 ∨ v = x2 ∨ v = x3) := by
  have e : k = 0 ∨ k = 1 ∨ k = 2 ∨ k = 3 := by omega
  rcases e with rfl | rfl | rfl | rfl
  · exact ⟨x0, rfl, .inl rfl⟩
  · exact ⟨x1, rfl, .inr (.inl rfl)⟩
  · exact ⟨x2, rfl, .inr (.inr (.inl rfl))⟩
  · exact ⟨x3, rfl, .inr (.inr (.inr rfl))⟩
end BF

/-! ### lambdas with parameters, kept and called later -/
namespace BF
open PySem PySem.Spec PyProof.Rows L2 LamX NdefX
/-- a lambda: its words, the cells that it captured, its code object -/
structure LF where
  qual : Str
  params : Arguments
  body : Expr
  scope : Scope
  cl : List (Str × Addr)
  c : Addr
abbrev LF.nf (F : LF) : NF := ⟨"<lambda>", F.qual, F.params, [], F.scope, F.cl, F.c⟩
abbrev LF.fd (F : LF) (pm ctv : Value) : FuncData := PySem.W.kla_fn "<lambda>" F.qual F.params F.body F.scope F.cl pm (.ref F.c) ctv
def LamO (f : Addr) (F : LF) : HO := .ext fun h => ∃ (od : Option Addr) (sl : Array (Option Value)) (pm ctv : Value), h.get? f = some (⟨.type "function", od, .func (F.fd pm ctv), sl⟩ : Obj)
theorem lamO_ne {f : Addr} {F : LF} (ps : Array Value) : LamO f F ≠ .tbl ps := fun z => by
  unfold LamO at z
  cases z
theorem lamO_at {P : Program} {w : World} {H : Hp} {h : Heap} {f : Addr} {F : LF} (hok : HOk P w H h) (e : H f = some (LamO f F)) : ∃ (od : Option Addr) (sl : Array (Option Value)) (pm ctv : Value), h.get? f = some (⟨.type "function", od, .func (F.fd pm ctv), sl⟩ : Obj) := by
  obtain ⟨z, _, _⟩ := hok f _ e
  exact z
section
variable {X : Cx} {pins : List (Addr × Obj)} {σ : L2.St} {H : Hp} {s : Shared}
theorem inv_lam {F : LF} {o : Obj} {t' : Nat} {pm ctv : Value} (I : Inv X pins σ H s) (ho : o = { cls := .type "function", data := .func (F.fd pm ctv) }) :
    Inv X pins σ (upd H s.heap.objs.size (LamO s.heap.objs.size F)) { s with heap := s.heap.push o, toks := t' } := by
  subst ho
  refine I.laid (a := s.heap.objs.size) (fun b u e => Heap.get?_push_of_some _ e) (Nat.le_refl _) ?_
  have e : (s.heap.push ({ cls := .type "function", data := .func (F.fd pm ctv) } : Obj)).get? s.heap.objs.size = some ({ cls := .type "function", data := .func (F.fd pm ctv) } : Obj) := Heap.get?_push_size _ rfl
  exact ⟨⟨_, _, pm, ctv, e⟩, ⟨_, e⟩, fun h1 h2 ⟨od, sl, p, t, z⟩ st => ⟨od, sl, p, t, st _ z⟩⟩
/-- the reading of a lambda: a new function; the tables may grow -/
def tLamp (T : List (Addr × Str)) (mk : Addr → LF) : TE := fun _ H Q => Tabs T H ∧ ∀ (f c' : Addr) (H1 : Hp), ExtN H H1 → Tabs T H1 → H f = none → H1 f = some (LamO f (mk c')) → H1 c' = some (CodeO c' (mk c').qual) → Q (.ref f) H1
theorem lamp_make {T : List (Addr × Str)} {c P : Addr} {params : Arguments} {body : Expr} {scope : Scope} {pos : Pos} {E : Value → Shared → Prop} {Q : Value → Shared → Prop} (I : Inv X pins σ H s) (TB : TabB X.base X.mg c P) (hcode : X.env.code = .ref c)
    (hm : (P, X.env.qual ++ "<lambda>") ∈ T) (hu : ∀ p ∈ T, p.1 = P → p.2 = X.env.qual ++ "<lambda>") (hT : Tabs T H) (hdef : defaultsOf params X.env = ([], [])) (hfree : ∀ y ∈ scope.names, y.2 = .free → ∃ c, X.env.cells.lookup y.1 = some c)
    (h : ∀ (f c' : Addr) (H1 : Hp) (s' : Shared), Inv X pins σ H1 s' → ExtN H H1 → Tabs T H1 → H f = none → H1 f = some (LamO f ⟨X.env.qual ++ "<lambda>", params, body, scope, cloFrom X.env.cells scope.names [], c'⟩) → H1 c' = some (CodeO c' (X.env.qual ++ "<lambda>")) → Q (.ref f) s') :
    wpAny (model X.prog X.w) X.A (eval (.Lambda params body scope pos) X.env) Q E s := by
  obtain ⟨ps, hP, ht, ha⟩ := (show TabS H P (X.env.qual ++ "<lambda>") from hT _ hm)
  refine PySem.W.kla_eval hdef ?_
  have bP : s.heap.BuiltinsAt X.mg P := TB.bm.keeps I.bk
  have hP' : s.heap.get? P = some { cls := .none, data := .fields ps } := I.hok P _ hP
  cases hc : codeAmong pos ps.toList with
  | none =>
    refine PySem.W.kla_makeFunction (mg := X.mg) (c := c) (P := P) (ps := ps) (closure_ok hfree) I.ok.glob (I.mod.glob.keeps I.bk) hcode (TB.code.keeps I.bk) hP' ht hc TB.gP bP fun c' ctv h' tk hx hge hlt hrec htb => ?_
    obtain ⟨c2, oc, vs, t, e2, hoc, hd, hv⟩ := hrec
    cases e2
    have nC : H c' = none := I.hok.fresh hge
    have I1 := inv_table (t' := tk) (more := #[rawInt pos.line, rawInt pos.col, .ref c']) (h' := h') I hP (fun b o hb e => hx b o hb e) htb hge ⟨oc, vs, t, hoc, hd, hv⟩
    have hE : ExtN H (upd (upd H P (.tbl (ps ++ #[rawInt pos.line, rawInt pos.col, .ref c']))) c' (CodeO c' (X.env.qual ++ "<lambda>"))) := fun b o e n => by
      rw [upd_ne (ne_of_none e nC), upd_ne (fun z => n ps (Option.some.inj (e.symm.trans (by rw [z]; exact hP))))]
      exact e
    have eL : (ps ++ #[rawInt pos.line, rawInt pos.col, .ref c']).toList = ps.toList ++ [rawInt pos.line, rawInt pos.col, .ref c'] := by simp
    have T1 : Tabs T (upd (upd H P (.tbl (ps ++ #[rawInt pos.line, rawInt pos.col, .ref c']))) c' (CodeO c' (X.env.qual ++ "<lambda>"))) := fun p hp => by
      by_cases hb : p.1 = P
      · rw [hu p hp hb, hb]
        refine ⟨_, by rw [upd_ne (ne_of_none hP nC), upd_same], by rw [eL]; exact PySem.TriplesOk_snoc _ _ _ _ ht, fun p' cv hcv => ?_⟩
        rw [eL] at hcv
        rcases among_app _ ht hcv with z | z
        · obtain ⟨c0, e1, e2⟩ := ha p' cv z
          exact ⟨c0, e1, hE _ _ e2 codeO_ne⟩
        · exact ⟨c', z, upd_same⟩
      · obtain ⟨ps', a1, a2, a3⟩ := hT p hp
        refine ⟨ps', by rw [upd_ne (ne_of_none a1 nC), upd_ne hb]; exact a1, a2, fun p' cv hcv => ?_⟩
        obtain ⟨c0, e1, e2⟩ := a3 p' cv hcv
        exact ⟨c0, e1, hE _ _ e2 codeO_ne⟩
    have nF := I1.hok.fresh (Nat.le_refl _)
    have I2 := inv_lam (F := ⟨X.env.qual ++ "<lambda>", params, body, scope, cloFrom X.env.cells scope.names [], c'⟩) (t' := tk) (pm := (X.mg "__name__").getD .none) (ctv := ctv) I1 rfl
    refine h h'.objs.size c' _ _ I2 (fun b o e n => ?_) (T1.ext fun b o e => ?_) (I.hok.fresh (Nat.le_trans hge (Nat.le_of_lt hlt))) upd_same ?_
    · have e1 := hE b o e n
      exact (upd_ne (ne_of_none e1 nF)).trans e1
    · exact (upd_ne (ne_of_none e nF)).trans e
    · exact (upd_ne (Nat.ne_of_lt hlt)).trans upd_same
  | some cv =>
    obtain ⟨c', e, hco⟩ := ha pos cv hc
    subst e
    refine PySem.W.kla_makeFunctionHit (mg := X.mg) (c := c) (P := P) (ps := ps) (closure_ok hfree) I.ok.glob (I.mod.glob.keeps I.bk) hcode (TB.code.keeps I.bk) hP' ht hc bP fun ctv h' tk hx hsz => ?_
    have I1 : Inv X pins σ H { s with heap := h', toks := tk } := I.kept hx
    have nF : H h'.objs.size = none := I1.hok.fresh (Nat.le_refl _)
    have I2 := inv_lam (F := ⟨X.env.qual ++ "<lambda>", params, body, scope, cloFrom X.env.cells scope.names [], c'⟩) (t' := tk) (pm := (X.mg "__name__").getD .none) (ctv := ctv) I1 rfl
    refine h h'.objs.size c' _ _ I2 (fun b o e n => ?_) (hT.ext fun b o e => ?_) nF upd_same ?_
    · exact (upd_ne (ne_of_none e nF)).trans e
    · exact (upd_ne (ne_of_none e nF)).trans e
    · exact (upd_ne (ne_of_none hco nF)).trans hco
end
/-- lambda ..: body -/
theorem pe_lamp {X : Cx} {T : List (Addr × Str)} {c P : Addr} {params : Arguments} {body : Expr} {scope : Scope} {pos : Pos} (TB : TabB X.base X.mg c P) (hcode : X.env.code = .ref c) (hm : (P, X.env.qual ++ "<lambda>") ∈ T) (hu : ∀ p ∈ T, p.1 = P → p.2 = X.env.qual ++ "<lambda>")
    (hdef : defaultsOf params X.env = ([], [])) (hfree : ∀ y ∈ scope.names, y.2 = .free → X.env.scope.names.lookup y.1 = some .cell ∨ X.env.scope.names.lookup y.1 = some .free) :
    PE X (.Lambda params body scope pos) (tLamp T fun c' => ⟨X.env.qual ++ "<lambda>", params, body, scope, cloFrom X.env.cells scope.names [], c'⟩) := by
  refine ⟨fun pins s σ H Q I h => ?_⟩
  obtain ⟨hT, h⟩ := h
  refine lamp_make I TB hcode hm hu hT hdef (fun y hy e => (hfree y hy e).elim (fun z => I.ok.has _ (.inl z)) fun z => I.ok.has _ (.inr z)) fun f c' H1 s' I1 eN T1 hn hf hc => ?_
  exact ⟨.ref f, H1, I1, rfl, h f c' H1 eN T1 hn hf hc⟩
/-- the promise of the lambda F at f: sp ws, ws what its captured cells hold at the call -/
structure LOk (P : Program) (w : World) (K : PySem.W.Frag) (mg : Str → Option Value) (base : Heap) (CX : CXT) (k : Nat) (f : Addr) (F : LF) (ps fr : List Str) (sp : List (Option V) → Sp) : Prop where
  len : ∀ ws vs H Q E, sp ws vs H Q E → vs.length = ps.length
  run : ∀ (A : Around) (outer : List Env) (s : Shared) (H : Hp) (us : List Value) (vs : List V) (ws : List (Option V)) (Q : VK) (E : XK), Room k A → Env0 P w K mg base A outer s H → H f = some (LamO f F) → H F.c = some (CodeO F.c F.qual) →
    CellsAt F.cl fr ws s.heap H → Vals vs us → sp ws vs H Q E → codeAny (model P w) A (.call (.ref f) ⟨us, []⟩) (CR CX outer P w H s Q E) s
section
variable {CX : CXT} {P : Program} {w : World} {K : PySem.W.Frag} {mg : Str → Option Value} {base : Heap} {N ps fr : List Str} {F : LF} {f : Addr} {k j : Nat} {sp sp' : List (Option V) → Sp}
/-- a lambda by its body -/
theorem lok_of (S : NScope N ps fr F.scope) (hb : ∀ (pm ctv : Value) (us : List Value), us.length = ps.length → bindArgs (F.fd pm ctv) ⟨us, []⟩ = pure (ps.zip us)) (len : ∀ ws vs H Q E, sp ws vs H Q E → vs.length = ps.length)
    (hbody : ∀ (A : Around) (outer : List Env) (s : Shared) (H : Hp) (vs : List V) (ws : List (Option V)) (Q : VK) (E : XK), Room k (A.deeper (envF F.nf f s.heap.objs.size)) → ws.length = fr.length → sp ws vs H Q E →
      ∃ t, PE (ncx CX P w K mg base N F.nf f A outer s H E) F.body t ∧ t (startF N vs ws) H Q) :
    LOk P w K mg base CX (k + 1) f F ps fr sp := by
  refine ⟨len, fun A outer s H us vs ws Q E hr e0 hf hc C r hsp => ?_⟩
  have hl := len _ _ _ _ _ hsp
  have lim : s.heap.NoLimit := e0.mod.nolimit.keeps fun b o e => (e0.bs b o e).1
  obtain ⟨od, sl, pm, ctv, ho⟩ := lamO_at e0.hok hf
  refine PySem.W.kla_callFunE hr.depth ho rfl S.co S.gen rfl (codeO_at e0.hok hc) ?_
  rw [hb pm ctv us (by rw [← r.length]; exact hl)]
  refine wpAny_pure (wpAny_newFunctionEnv S.nocell (fun ⟨n, _⟩ hy => S.par n (List.of_mem_zip hy).1) (fun h₁ hns hsb => ⟨lim.fresh _ hsb, ?_⟩) S.kind)
  show codeAny _ _ (.expr F.body (envF F.nf f s.heap.objs.size)) _ _
  have kp : ∀ b o, s.heap.get? b = some o → h₁.get? b = some o := fun b o e => hsb.extBut b o (Nat.ne_of_lt (Heap.lt_size e)) (Heap.get?_push_of_some _ e)
  obtain ⟨t, ht, hq⟩ := hbody A outer s H vs ws Q E (hr.deeper _) C.len hsp
  have I : Inv (ncx CX P w K mg base N F.nf f A outer s H E) [] (startF N vs ws) H { s with heap := h₁, toks := s.toks + (ps.zip us).length } := inv_startN (F := F.nf) S hr.hd e0 hl r C hns kp
  refine PySem.W.kla_codeExpr (wpAny_mono (ht.run [] _ (startF N vs ws) H Q I hq) (fun v s' hs => ?_) fun e s' hs => hs)
  obtain ⟨v', H', J, rv, q⟩ := hs
  exact ⟨v', H', J.os, J.bare, J.base, J.hok, rv, q⟩
end
section
variable {X : Cx} {pins : List (Addr × Obj)} {σ : L2.St} {H : Hp} {s : Shared} {cl : List (Str × Addr)} {fr : List Str} {ws : List (Option V)}
/-- what the cells held when the running frame began they hold still -/
theorem cells_later (C : CellsAt cl fr ws X.s_0.heap X.H_0) (hx : X.ex = []) (I : Inv X pins σ H s) : CellsAt cl fr ws s.heap H := by
  have nx : ∀ c : Addr, c ∉ X.ex := fun c => by rw [hx]; simp
  have kp : ∀ y c, cl.lookup y = some c → ∀ v, X.s_0.heap.IsCell c v → s.heap.IsCell c v := fun y c e v ⟨o, ho, hd⟩ => by
    obtain ⟨sl, q⟩ := I.base.any ho (C.all y c e).1 (nx c)
    exact ⟨_, q, hd⟩
  refine ⟨C.len, fun y c e => ?_, C.inj, fun i y e => ?_⟩
  · obtain ⟨n, v, z⟩ := C.all y c e
    refine ⟨?_, v, kp y c e v z⟩
    obtain ⟨o, ho, _⟩ := z
    exact I.base.free c o ho n (nx c)
  · obtain ⟨c, hc, hv⟩ := C.has i y e
    refine ⟨c, hc, fun v ev => ?_⟩
    obtain ⟨u, r, z⟩ := hv v ev
    exact ⟨u, r, kp y c hc _ z⟩
theorem fnAt_lam {f : Addr} {F : LF} (I : Inv X pins σ H s) (e : H f = some (LamO f F)) : PySem.W.FnAt f s.heap := by
  obtain ⟨od, sl, pm, ctv, ho⟩ := lamO_at I.hok e
  exact ⟨_, od, _, sl, ho⟩
end
/-- x(..), x a name that holds the lambda F at f -/
def tCallL (f : Addr) (F : LF) (i : Nat) (ws : List (Option V)) (sp : List (Option V) → Sp) (E : XK) (t : TA) : TE := fun σ H Q => σ[i]? = some (some (.ref f)) ∧ H f = some (LamO f F) ∧
  t σ H fun vs H1 => H1 f = some (LamO f F) ∧ H1 F.c = some (CodeO F.c F.qual) ∧ sp ws vs H1 Q E
section
variable {X : Cx} {CX : CXT} {F : LF} {f : Addr} {ps fr : List Str} {i j k : Nat} {x : Str} {sp : List (Option V) → Sp} {ws : List (Option V)} {E : XK} {t : TA} {e : Expr} {es : List Expr} {p pos : Pos}
theorem pe_calll (Fn : LOk X.prog X.w X.K X.mg X.base CX k f F ps fr sp) (C : CellsAt F.cl fr ws X.s_0.heap X.H_0) (hex : X.ex = []) (hr : Room j X.A) (hk : k ≤ j) (hx : Passes CX X E) (hN : X.N[i]? = some x) (hv : Vis X.env.scope x) (ha : PA X (e :: es) t)
    (hd : (x == ("__debug__" : Str)) = false := by decide) (hcd : (x == ("__classdict__" : Str)) = false := by decide)
    (he : starEach (e :: es) X.env = (false, eval e X.env) :: starEach es X.env := by rfl) (hpl : (backTo pos (starEach es X.env)).any (·.1) = false := by rfl) :
    PE X (.Call (.Name x p) (e :: es) [] pos) (tCallL f F i ws sp E t) := by
  refine ⟨fun pins s σ H Q I h => ?_⟩
  obtain ⟨hs, hf, ht⟩ := h
  refine wpAny_Call_Name_kw (thn ((pe_var (pos := p) hN hv hd hcd).run pins s σ H (fun v H1 => v = .ref f ∧ H1 = H) I ⟨.ref f, hs, rfl, rfl⟩) fun u s1 ⟨v, H1, I1, r1, q1⟩ => ?_)
  obtain ⟨ev, eH⟩ := q1
  subst ev
  rw [eH] at I1
  obtain rfl : u = Value.ref f := r1
  refine PySem.W.callWith_F (first := []) (fnAt_lam I1 hf) (thn (ha.run pos pins s1 σ H _ I1 ht) fun us s2 ⟨vs, H2, I2, r, h1, h2, q⟩ => ⟨fnAt_lam I2 h1, ?_⟩) he hpl
  show wpAny _ _ (call (.ref f) us) _ _ _
  refine wpAny_call (codeAny_mono (Fn.run X.A X.stack s2 H2 us vs _ Q E (hr.mono hk) I2.env0 h1 h2 (cells_later C hex I2) r q) fun r s' hq => ?_)
  cases r with
  | error e => exact hx pins σ H2 s2 e s' I2 hq
  | ok fl =>
    cases fl with
    | ret u => exact I2.after hq
    | next => exact False.elim hq
    | brk => exact False.elim hq
    | cont => exact False.elim hq
end
end BF

/-! ### a list comprehension whose element is told what the frame around it holds; defs whose promise hangs on the caller's cells -/
namespace BF
open PySem PySem.Spec PyProof.Rows L2 LamX NdefX
section
variable {X : Cx}
/-- what is asked of the element: at the block's entry the frame around it stood so -/
def EltOk (X : Cx) (scope : Scope) (own : List (Str × Nat)) (elt : Expr) (te : TE) : Prop :=
  ∀ (pins : List (Addr × Obj)) (σ : L2.St) (s : Shared) (H : Hp) (C : Addr) (cl : List (Str × Addr)) (fp : List Addr), Inv X pins σ H s → (∀ b ∈ fp, ∀ x c, X.env.cells.lookup x = some c → c ≠ b) →
    ∀ (pins' : List (Addr × Obj)) (s' : Shared) (σ' : L2.St) (H' : Hp) (Q : VK), wipe σ' (own.map (·.2)) = wipe σ (own.map (·.2)) → Inv (X.blk s H scope (compEnvC scope cl C X.env) fp) pins' σ' H' s' → te σ' H' Q →
      wpAny (model X.prog X.w) X.A (eval elt (compEnvC scope cl C X.env)) (EP (X.blk s H scope (compEnvC scope cl C X.env) fp) pins' σ' Q) (fun _ _ => False) s'
theorem pe_lcI {elt tg iter : Expr} {scope : Scope} {own : List (Str × Nat)} {pos : Pos} {wi : TI} {g : TG} {te : TE} (hc : X.calm = true) (hN : X.N.Nodup) (hi : PI X tg iter wi) (ok : BlkOk X.N X.env.scope scope own)
    (hg : ∀ (s : Shared) (H : Hp) (C : Addr) (cl : List (Str × Addr)) (fp : List Addr), PG (X.blk s H scope (compEnvC scope cl C X.env) fp) tg g) (he : EltOk X scope own elt te) (hs : ∀ x, foldedSetIterable iter X.env x = pure x := by intro _; rfl) :
    PE X (.ListComp elt [⟨tg, iter, [], 0⟩] scope pos) (tLc wi g tYes te (own.map (·.2))) := by
  refine ⟨fun pins s σ H Q I h => ?_⟩
  rw [eval_ListComp]
  have hfree : ∀ y ∈ scope.names, y.2 = .free → ∃ c, X.env.cells.lookup y.1 = some c := fun y hy e => by
    rcases ok.free y hy e with k | k
    · exact I.ok.has _ (.inl k)
    · exact I.ok.has _ (.inr k)
  refine wpAny_comprehension_free (use := none) rfl hs (closure_ok hfree) ok.kind (fun y hy e => by rw [ok.uniq y hy, e])
    (thn (hi.run pins s σ H _ I h) fun xv s1 hx => thn hx fun itv s2 h2 => ?_)
  obtain ⟨it, fp, tn, J, H2, e, I2, T, st2, f2, q⟩ := h2
  subst e
  refine wpAny_newObj_type (newEnv_comp ?_) (by show 0 ≤ sizeLine; decide)
  generalize hD : s2.heap.objs.size = D
  have hDn : H2 D = none := I2.hok.fresh (Nat.le_of_eq hD)
  obtain ⟨W, ⟨m0, w0⟩, turn⟩ := q D hDn
  generalize hs3 : ({ s2 with heap := s2.heap.push { cls := .type "list", data := .seq ([] : List Value).toArray } } : Shared) = s3
  have I3 : Inv X pins σ (upd H2 D (.lst [])) s3 := by
    rw [← hs3]
    refine I2.laid (t' := s2.toks) (fun b o e => Heap.get?_push_of_some _ e) (Nat.le_of_eq hD) ⟨Nat.zero_le _, [], 0, .nil, ?_⟩
    rw [← hD]
    exact Heap.get?_push_size _ rfl
  have h3 : s3.heap = s2.heap.push { cls := .type "list", data := .seq ([] : List Value).toArray } := by rw [← hs3]
  have f3 : ∀ b ∈ fp, FpOk X pins (upd H2 D (.lst [])) b ∧ b < s3.heap.objs.size := fun b hb => by
    obtain ⟨o, e, _⟩ := T.obj _ _ st2 b hb
    have hlt := Heap.lt_size e
    refine ⟨⟨?_, (f2 b hb).2⟩, by rw [h3, Heap.size_push]; exact Nat.lt_succ_of_lt hlt⟩
    rw [upd_ne (by rw [← hD]; exact Nat.ne_of_lt hlt)]
    exact (f2 b hb).1
  have st3 : tn 0 s3.heap := T.keep _ _ _ st2 fun b _ o e => by rw [h3]; exact Heap.get?_push_of_some _ e
  have I4 := block_start I3 ok hN f3
  have pg := hg s3 (upd H2 D (.lst [])) s3.heap.objs.size (cellsFrom (s3.heap.objs.size + 1) scope.names (cloFrom X.env.cells scope.names [])) fp
  have pe := he pins σ s3 (upd H2 D (.lst [])) s3.heap.objs.size (cellsFrom (s3.heap.objs.size + 1) scope.names (cloFrom X.env.cells scope.names [])) fp I3 (fun b hb => (f3 b hb).1.2.2.2.2.1)
  show codeAny _ _ (.compStart (.ListComp elt [⟨tg, iter, [], 0⟩] scope pos) 0 (.ref it) (.ref D) (compEnvC scope (cellsFrom (s3.heap.objs.size + 1) scope.names (cloFrom X.env.cells scope.names [])) s3.heap.objs.size X.env)) (compPost (model X.prog X.w) X.A X.xe none (EP X pins σ Q) (.ref D) s3.heap.objs.size) { s3 with heap := pushCells (s3.heap.push { cls := .type "dict", data := .dict #[] }) scope.names }
  have nfp : ∀ b ∈ fp, (upd H2 D (.lst [])) b = none := fun b hb => (f3 b hb).1.1
  generalize hce : compEnvC scope (cellsFrom (s3.heap.objs.size + 1) scope.names (cloFrom X.env.cells scope.names [])) s3.heap.objs.size X.env = ce at I4 pg pe ⊢
  have cL : ce.locals = s3.heap.objs.size := by subst hce; rfl
  have pt : PTs (X.blk s3 (upd H2 D (.lst [])) scope ce fp) [] tYes := pts_nil
  generalize hH3 : upd H2 D (.lst []) = H3 at I3 I4 pg pt pe w0 nfp f3
  generalize hs4 : ({ s3 with heap := pushCells (s3.heap.push { cls := .type "dict", data := .dict #[] }) scope.names } : Shared) = s4 at I4 ⊢
  have k4 : ∀ b o, s3.heap.get? b = some o → s4.heap.get? b = some o := fun b o e => by rw [← hs4]; exact pushCells_keeps _ _ _ _ (Heap.get?_push_of_some _ e)
  have st4 : tn 0 s4.heap := T.keep _ _ _ st3 fun b _ o e => k4 b o e
  have stat : ∀ {σ' : L2.St} {H' : Hp} {s' : Shared}, Inv (X.blk s3 H3 scope ce fp) [] σ' H' s' → (∀ b ∈ fp, H' b = none) → ∀ b ∈ fp, FpOk (X.blk s3 H3 scope ce fp) [] H' b := fun {σ' H' s'} I' hn b hb =>
    ⟨hn b hb, (I'.ok.exf b hb).1, I'.ok.exfs b hb, .inl hb, fun x c e => (I'.ok.exf b hb).2 x c e, fun p hp => absurd (show p ∈ ([] : List (Addr × Obj)) ++ [] from hp) (by simp)⟩
  have loop : codeAny (model X.prog X.w) X.A (.compLoop (.ListComp elt [⟨tg, iter, [], 0⟩] scope pos) 0 (.ref it) (.ref D) ce) (compPost (model X.prog X.w) X.A X.xe none (EP X pins σ Q) (.ref D) s3.heap.objs.size) s4 := by
    refine compLoop_any (fun n s' => ∃ i H', Inv (X.blk s3 H3 scope ce fp) [] (wipe σ (own.map (·.2))) H' s' ∧ tn i s'.heap ∧ (∀ b ∈ fp, H' b = none) ∧ W i n H') ?_ m0 ⟨0, H3, I4, st4, nfp, w0⟩
    rintro n s5 ⟨i, H5, I5, st5, n5, w5⟩
    rcases turn i n H5 w5 with ⟨stop, qq⟩ | ⟨go, Nx, hNx, step⟩
    · have td := T.done (X.blk s3 H3 scope ce fp) rfl rfl rfl hc i [] s5 _ H5 (fun _ _ => False) I5 (stat I5 n5) st5 stop
      refine thnF td fun r s6 ⟨hr, I6⟩ => ?_
      subst hr
      have I7 : Inv X pins σ H5 s6 := I3.call' (ch := fp) I6.os I6.base I6.hok I6.bare fun b hb => ⟨(f3 b hb).1.2.2.2.1, (f3 b hb).1.2.1, (f3 b hb).1.2.2.2.2.1, (f3 b hb).1.2.2.2.2.2⟩
      have nC : H5 s3.heap.objs.size = none := by
        have z : H5 ce.locals = none := I6.free
        rw [cL] at z
        exact z
      obtain ⟨m, hn, _⟩ := I6.loc
      have hn : s6.heap.Ns ce.locals m := hn
      rw [cL] at hn
      obtain ⟨f0, f1, _, f3', f4, f5⟩ := I3.fpOk (Nat.le_refl _) nC
      exact ⟨m, hn, fun h'' sb => ⟨.ref D, H5, I7.turned (t' := s6.toks) (fun b o hb e => (sb.2 b hb).trans e) f0 f1 f3' f4 f5, rfl, qq⟩⟩
    · have ti := T.item (X.blk s3 H3 scope ce fp) rfl rfl rfl hc i [] s5 _ H5 (fun _ _ => False) I5 (stat I5 n5) st5 go
      refine thnF ti fun r s6 ⟨u, hr, h6⟩ => ?_
      subst hr
      refine thnF h6 fun _ s7 ⟨x, H7, I7, r7, y7, st7, n7⟩ => ?_
      have I7' := I7.pinned (stat I7 n7) (T.obj _ _ st7)
      refine thnF (pg.run _ s7 _ H7 x u _ I7' r7 (step x H7 y7)) fun _ s8 ⟨σ8, H8, I8, hw8, q8⟩ => ?_
      refine thnF (pt.run _ s8 σ8 H8 _ I8 q8) fun b s9 ⟨H9, I9, q9⟩ => ?_
      have fin : ∀ {s' : Shared} {H' : Hp}, Inv (X.blk s3 H3 scope ce fp) ([] ++ pinsAt fp s7.heap) σ8 H' s' → Nx H' → ∃ m, m < n ∧ ∃ i H', Inv (X.blk s3 H3 scope ce fp) [] (wipe σ (own.map (·.2))) H' s' ∧ tn i s'.heap ∧ (∀ b ∈ fp, H' b = none) ∧ W i m H' := fun {s' H'} I' nx => by
        obtain ⟨m', hm, w'⟩ := hNx H' nx
        have pin' : ∀ b ∈ fp, ∀ o, s7.heap.get? b = some o → s'.heap.get? b = some o ∧ H' b = none := fun b hb o e =>
          let z := I'.pin (b, o) (List.mem_append_right _ (List.mem_append_right _ (mem_pinsAt hb e)))
          ⟨z.1, z.2.1⟩
        have hl : (wipe σ (own.map (·.2))).length = σ8.length := by rw [← hw8, wipe_length]
        refine ⟨m', hm, i + 1, H', (I'.unpinned (pins := [])).weak hl (fun j v e => ?_), T.keep _ _ _ st7 fun b hb o e => (pin' b hb o e).1, fun b hb => ?_, w'⟩
        · rw [← hw8] at e
          exact (wipe_some e).1
        · obtain ⟨o, e, _⟩ := T.obj _ _ st7 b hb
          exact (pin' b hb o e).2
      cases b with
      | false =>
        simp only [Bool.false_eq_true, if_false] at q9 ⊢
        exact fin I9 q9
      | true =>
        simp only [if_true] at q9 ⊢
        subst hce
        refine thnF (pe _ s9 σ8 H9 _ hw8 I9 q9) fun z s10 ⟨yv, H10, I10, r10, acc, hD10, hz10, nx⟩ => ?_
        exact app_ok (X := X.blk s3 H3 scope _ fp) I10 hD10 hz10 r10 fun s11 I11 => fin I11 nx
  exact codeAny_compStart_list loop (T.self X.A 0 _ _ _ st4 loop)
end
/-- a def whose promise hangs on what the cells cls hold -/
def HasL (P : Program) (w : World) (K : PySem.W.Frag) (mg : Str → Option Value) (base : Heap) (cls : List (List (Str × Addr))) (fr : List Str) (ws : List (Option V)) (k : Nat) (x : Str) (ps : List Str) (sp : Sp) : Prop :=
  ∃ f fd, mg x = some (.ref f) ∧ PySem.W.keepIn K (.ref f) = true ∧ Binds K fd ps [] ∧ (∀ vs H Q E, sp vs H Q E → vs.length = ps.length) ∧
    ∀ (A : Around) (outer : List Env) (s : Shared) (H : Hp) (args : Args) (us : List Value) (vs : List V) (Q : VK), Room k A → Env0 P w K mg base A outer s H → BindsTo s fd args (ps.zip us) → (∀ cl ∈ cls, CellsAt cl fr ws s.heap H) → Vals vs us → sp vs H Q E0 →
      codeAny (model P w) A (.call (.ref f) args) (CR CX0 outer P w H s Q E0) s
theorem Pl.mkL {P : Program} {w : World} {K : PySem.W.Frag} {mg : Str → Option Value} {base : Heap} {x : Str} {st : Stmt} {N ps fr : List Str} {cls : List (List (Str × Addr))} {ws : List (Option V)} {k : Nat} {sp : Sp} (p : Pl K mg x st) (S : FnScope N ps (defScope st))
    (hb : ∀ (kV doc pm : Value) (an : Option Addr) (cdv ct : Value) (us : List Value), us.length = ps.length → bindArgs (PySem.W.fnOf x x (defArgs st) (defBody st) (defScope st) .none kV doc pm an cdv ct) ⟨us, []⟩ = pure (ps.zip us))
    (len : ∀ vs H Q E, sp vs H Q E → vs.length = ps.length)
    (body : ∀ (f : Addr) (cdv : Value) (A : Around) (outer : List Env) (s : Shared) (H : Hp) (vs : List V) (Q : VK), Room k (A.deeper (envOfC x (defScope st) s.heap.objs.size f cdv)) → (∀ cl ∈ cls, CellsAt cl fr ws s.heap H) → sp vs H Q E0 →
      ∃ t, PSs (cxOf CX0 P w K mg base N x (defScope st) f cdv A outer s H E0).nox (defBody st) t ∧ t { nx := fun _ H' => Q .non H', rt := Q } (start N vs) H) : HasL P w K mg base cls fr ws (k + 1) x ps sp := by
  obtain ⟨f, fd, F, g⟩ := p
  have Fb := F.bindsN hb
  have kp := F.kp
  obtain ⟨oc, od, dV, kV, doc, pm, an, cdv, ct, osl, rfl, lk, hcd, _, _⟩ := F.ex
  refine ⟨f, _, g, kp, Fb, len, fun A outer s H args us vs Q hr e0 hbt C r hsp => ?_⟩
  refine run_ofS lk hcd S hr e0 hbt r (len _ _ _ _ hsp) fun hr' => ?_
  obtain ⟨t, a, b⟩ := body f cdv A outer s H vs Q hr' C hsp
  exact ⟨t, a.nox, b⟩
/-- x(..), in a frame that began when the cells cls held ws -/
theorem pe_fnC {X : Cx} {cls : List (List (Str × Addr))} {fr : List Str} {ws : List (Option V)} {k : Nat} {ps : List Str} {sp : Sp} {x : Str} {p pos : Pos} {e : Expr} {es : List Expr} {t : TA} (h : HasL X.prog X.w X.K X.mg X.base cls fr ws k x ps sp) (hr : Room k X.A)
    (C : ∀ cl ∈ cls, CellsAt cl fr ws X.s_0.heap X.H_0) (hex : ∀ cl ∈ cls, ∀ y c, cl.lookup y = some c → c ∉ X.ex) (ha : PA X (e :: es) t) (hg : Gl X x) (hdb : (x == ("__debug__" : Str)) = false := by decide)
    (he : starEach (e :: es) X.env = (false, eval e X.env) :: starEach es X.env := by rfl) (hpl : (backTo pos (starEach es X.env)).any (·.1) = false := by rfl) : PE X (.Call (.Name x p) (e :: es) [] pos) (tCall sp [] E0 t) := by
  obtain ⟨f, fd, hm, hk, hb, len, run⟩ := h
  refine ⟨fun pins s σ H Q I h' => ?_⟩
  refine wpAny_Call_Name_kw (ld_glob I hg hm ?_ hdb)
  refine PySem.W.callWith_K (h₀ := X.base) I.ok.mod.kin hk (thn (ha.run pos pins s σ H _ I h') fun us s1 ⟨vs, H1, I1, r, q⟩ => ⟨I1.kIn, ?_⟩) he hpl
  have q : sp vs H1 Q E0 := by
    have z : sp (vs ++ []) H1 Q E0 := q
    rw [List.append_nil] at z
    exact z
  have C1 : ∀ cl ∈ cls, CellsAt cl fr ws s1.heap H1 := fun cl hc => by
    have C0 := C cl hc
    have kp : ∀ y c, cl.lookup y = some c → ∀ v, X.s_0.heap.IsCell c v → s1.heap.IsCell c v := fun y c e v ⟨o, ho, hd⟩ => by
      obtain ⟨sl, q⟩ := I1.base.any ho (C0.all y c e).1 (hex cl hc y c e)
      exact ⟨_, q, hd⟩
    refine ⟨C0.len, fun y c e => ?_, C0.inj, fun i y e => ?_⟩
    · obtain ⟨n, v, z⟩ := C0.all y c e
      refine ⟨?_, v, kp y c e v z⟩
      obtain ⟨o, ho, _⟩ := z
      exact I1.base.free c o ho n (hex cl hc y c e)
    · obtain ⟨c, hc', hv⟩ := C0.has i y e
      refine ⟨c, hc', fun v ev => ?_⟩
      obtain ⟨u, r, z⟩ := hv v ev
      exact ⟨u, r, kp y c hc' _ z⟩
  have hb1 : BindsTo s1 fd ⟨us, []⟩ (ps.zip us) := by
    have z := hb s1 us I1.kIn (by
      have y := len _ _ _ _ q
      rw [r.length] at y
      simpa using y)
    rw [List.append_nil] at z
    exact z
  refine wpAny_call (codeAny_mono (run X.A X.stack s1 H1 ⟨us, []⟩ us vs Q hr I1.env0 hb1 C1 r q) fun r s' hq => ?_)
  cases r with
  | error e => exact (show False from hq).elim
  | ok fl =>
    cases fl with
    | ret u => exact I1.after hq
    | next => exact False.elim hq
    | brk => exact False.elim hq
    | cont => exact False.elim hq
end BF
namespace BF
open PySem PySem.Spec PyProof.Rows L2 LamX NdefX
theorem wipe_at {σ : L2.St} {j : Nat} : ∀ {vs : List Nat}, j ∉ vs → (wipe σ vs)[j]? = σ[j]?
  | [], _ => rfl
  | v :: vs, h => by
    show ((wipe σ vs).set v none)[j]? = _
    rw [List.getElem?_set_ne (fun e => h (by rw [e]; exact List.mem_cons_self)), wipe_at (vs := vs) fun z => h (List.mem_cons_of_mem _ z)]
theorem slots_wipe {σ σ' : L2.St} {vs js : List Nat} (h : wipe σ' vs = wipe σ vs) (hj : ∀ j ∈ js, j ∉ vs) : js.map (NdefX.slotAt σ') = js.map (NdefX.slotAt σ) := by
  refine List.map_congr_left fun j m => ?_
  have e : σ'[j]? = σ[j]? := by rw [← wipe_at (σ := σ') (hj j m), h, wipe_at (hj j m)]
  unfold NdefX.slotAt
  rw [e]
/-- an element x(..), x a def whose promise hangs on the cells of the frame around -/
theorem elt_fnL {X : Cx} {scope : Scope} {own : List (Str × Nat)} {cls : List (List (Str × Addr))} {fr : List Str} {js : List Nat} {k : Nat} {ps : List Str} {sp : List (Option V) → Sp} {x : Str} {p pos : Pos} {e : Expr} {es : List Expr} {t : TA}
    (h : ∀ ws, HasL X.prog X.w X.K X.mg X.base cls fr ws k x ps (sp ws)) (hr : Room k X.A) (cp : X.Ok → ∀ cl ∈ cls, Caps X cl fr js) (hjs : ∀ j ∈ js, j ∉ own.map (·.2))
    (ha : ∀ (s : Shared) (H : Hp) (C : Addr) (cl : List (Str × Addr)) (fp : List Addr), PA (X.blk s H scope (compEnvC scope cl C X.env) fp) (e :: es) t)
    (hg : ∀ (s : Shared) (H : Hp) (C : Addr) (cl : List (Str × Addr)) (fp : List Addr), Gl (X.blk s H scope (compEnvC scope cl C X.env) fp) x := by intros; rfl) (hdb : (x == ("__debug__" : Str)) = false := by decide)
    (he : ∀ env, starEach (e :: es) env = (false, eval e env) :: starEach es env := by intros; rfl) (hpl : ∀ env, (backTo pos (starEach es env)).any (·.1) = false := by intros; rfl) :
    EltOk X scope own (.Call (.Name x p) (e :: es) [] pos) (fun σ H Q => tCall (sp (js.map (NdefX.slotAt σ))) [] E0 t σ H Q) := by
  intro pins σ s H C cl fp I hfp pins' s' σ' H' Q hw I' h'
  have ews := slots_wipe hw hjs
  exact (pe_fnC (X := X.blk s H scope (compEnvC scope cl C X.env) fp) (h (js.map (NdefX.slotAt σ'))) hr (fun c hc => by rw [ews]; exact cells_of I (cp I.ok c hc))
    (fun c hc y a e z => hfp a z y a ((cp I.ok c hc).sub y a e) rfl) (ha s H C cl fp) (hg s H C cl fp) hdb (he _) (hpl _)).run pins' s' σ' H' Q I' h'
end BF
namespace BF
open PySem PySem.Spec PyProof.Rows L2 LamX NdefX
/-- .. the cells of lambdas made in this frame, by their scopes -/
theorem elt_fnS {X : Cx} {scope : Scope} {own : List (Str × Nat)} {scs : List Scope} {fr : List Str} {js : List Nat} {k : Nat} {ps : List Str} {sp : List (List (Str × Addr)) → List (Option V) → Sp} {x : Str} {p pos : Pos} {e : Expr} {es : List Expr} {t : TA} (sc : Scope)
    (hsc : X.env.scope = sc) (hscs : scs.all (fun n => ndefB sc n fr) = true) (hjn : js.map (fun j => X.N[j]?) = fr.map some)
    (h : ∀ cls ws, HasL X.prog X.w X.K X.mg X.base cls fr ws k x ps (sp cls ws)) (hr : Room k X.A) (hjs : ∀ j ∈ js, j ∉ own.map (·.2))
    (ha : ∀ (s : Shared) (H : Hp) (C : Addr) (cl : List (Str × Addr)) (fp : List Addr), PA (X.blk s H scope (compEnvC scope cl C X.env) fp) (e :: es) t)
    (hg : ∀ (s : Shared) (H : Hp) (C : Addr) (cl : List (Str × Addr)) (fp : List Addr), Gl (X.blk s H scope (compEnvC scope cl C X.env) fp) x := by intros; rfl) (hdb : (x == ("__debug__" : Str)) = false := by decide)
    (he : ∀ env, starEach (e :: es) env = (false, eval e env) :: starEach es env := by intros; rfl) (hpl : ∀ env, (backTo pos (starEach es env)).any (·.1) = false := by intros; rfl) :
    EltOk X scope own (.Call (.Name x p) (e :: es) [] pos) (fun σ H Q => tCall (sp (scs.map fun n => cloFrom X.env.cells n.names []) (js.map (NdefX.slotAt σ))) [] E0 t σ H Q) := by
  refine elt_fnL (sp := fun ws => sp (scs.map fun n => cloFrom X.env.cells n.names []) ws) (fun ws => h _ ws) hr (fun ok cl hc => ?_) hjs ha hg hdb he hpl
  obtain ⟨n, hn, rfl⟩ := List.mem_map.mp hc
  have b := List.all_eq_true.mp hscs n hn
  exact Caps.made ok (by rw [hsc]; exact ndef_free b) (ndef_fr b) hjn
end BF

/-! ### data at any depth, in a heap that grows -/
namespace BF
open PySem PySem.Spec PyProof.Rows L2
theorem at0 {x : V} {xs : List V} : atI (x :: xs) 0 = some x := by
  show atI (x :: xs) ((0 : Nat) : Int) = some x
  exact atI_nat rfl
mutual
theorem dpS {K : PySem.W.Frag} {H H' : Hp} (sm : Same H H') : ∀ {d : PyData} {v : V}, Dp K H v d → Dp K H' v d
  | .none, _, h => by cases h; exact .non
  | .bool b, _, h => by cases h; exact .bl b
  | .int i, _, h => by cases h; exact .int i
  | .str x, _, h => by cases h; exact .str x
  | .list ds, _, h => by
    cases h with
    | lst hs ha => exact .lst (sm.seq hs) (dpsS sm ha)
  | .tuple ds, _, h => by
    cases h with
    | tup hs ha => exact .tup (Same.tup sm hs) (dpsS sm ha)
theorem dpsS {K : PySem.W.Frag} {H H' : Hp} (sm : Same H H') : ∀ {ds : List PyData} {vs : List V}, DpAll K H vs ds → DpAll K H' vs ds
  | [], _, h => by cases h; exact .nil
  | d :: ds, _, h => by
    cases h with
    | cons h1 h2 => exact .cons (dpS sm h1) (dpsS sm h2)
end
/-- shaped, at most n deep -/
structure Shp (n : Nat) (d : PyData) : Prop where
  c : PyData.canLay0 d = true
  h : PyData.depth d ≤ n
theorem Shp.ok {n : Nat} {d : PyData} (s : Shp n d) (h : n ≤ 64) : SeqAt.shaped d = true := Bool.and_eq_true_iff.mpr ⟨s.c, decide_eq_true (Nat.le_trans s.h h)⟩
theorem shp_all {n : Nat} : ∀ {ds : List PyData}, (∀ d ∈ ds, Shp n d) → PyData.canLayAll0 ds = true ∧ PyData.depthAll ds ≤ n
  | [], _ => ⟨rfl, by simp [PyData.depthAll]⟩
  | d :: ds, h => by
    obtain ⟨a, b⟩ := shp_all (ds := ds) fun d hd => h d (List.mem_cons_of_mem _ hd)
    have c := h d (by simp)
    refine ⟨?_, ?_⟩
    · rw [PyData.canLayAll0, c.c, a]
      rfl
    · rw [PyData.depthAll]
      exact Nat.max_le.mpr ⟨c.h, b⟩
theorem shp_list {n : Nat} {ds : List PyData} (h : ∀ d ∈ ds, Shp n d) : Shp (n + 1) (.list ds) := by
  obtain ⟨a, b⟩ := shp_all h
  refine ⟨by rw [PyData.canLay0]; exact a, ?_⟩
  rw [PyData.depth]
  omega
theorem shp_tuple {n : Nat} {ds : List PyData} (h : ∀ d ∈ ds, Shp n d) : Shp (n + 1) (.tuple ds) := by
  obtain ⟨a, b⟩ := shp_all h
  refine ⟨by rw [PyData.canLay0]; exact a, ?_⟩
  rw [PyData.depth]
  omega
theorem shp_int (i : Int) : Shp 1 (.int i) := ⟨rfl, by simp [PyData.depth]⟩
theorem shp_bool (b : Bool) : Shp 1 (.bool b) := ⟨rfl, by simp [PyData.depth]⟩
theorem shp_ints (xs : List Int) : SeqAt.shaped (.list (xs.map .int)) = true := (shp_list (n := 1) fun d hd => by
  obtain ⟨i, _, rfl⟩ := List.mem_map.mp hd
  exact shp_int i).ok (by decide)
theorem ne_nil (xs : List Int) : (!PyData.eqv (.list (xs.map .int)) (.list [])) = !xs.isEmpty := by
  cases xs with
  | nil => rfl
  | cons x xs => rfl
theorem dp_ints {K : PySem.W.Frag} {H : Hp} : ∀ xs : List Int, DpAll K H (xs.map V.int) (xs.map PyData.int)
  | [] => .nil
  | x :: xs => .cons (.int x) (dp_ints xs)
end BF

/-! ### xs.count(y), flat items -/
namespace BF
open PySem PySem.Spec PyProof.Rows L2
theorem count_eqU {x : V} : ∀ {xs : List V} {us : List Value}, Vals xs us → xs.all flatV = true → us.countP (eqU x) = xs.countP fun y => eqV y x
  | _, _, .nil, _ => rfl
  | y :: xs, u :: us, .cons r t, f => by
    rw [List.all_cons, Bool.and_eq_true] at f
    rw [List.countP_cons, List.countP_cons, count_eqU t f.2, eqU_of r f.1]
def rCntV (K : PySem.W.Frag) : V → List V → Hp → VK → Prop := fun x xs H Q => ∃ (p : Addr) (ys : List V) (y : V), x = .ref p ∧ xs = [y] ∧ SqL K H p ys ∧ flatV y = true ∧ ys.all flatV = true ∧ Q (.int (ys.countP (fun z => eqV z y) : Nat)) H
theorem mt_count {X : Cx} : MtR X "list.count" (rCntV X.K) := by
  intro pins s σ H x xs v us Q I rx rxs h
  obtain ⟨p, ys, y, rfl, rfl, hs, fy, fa, q⟩ := h
  cases rx
  obtain ⟨u, rfl, ru⟩ := rxs.one
  obtain ⟨its, rv, ⟨⟨cls, dd, data, sl⟩, n, ho, hc, hdn, hd⟩, hlen⟩ := I.list hs
  simp only at hc hd
  subst hc hd
  refine call_meets PySem.F.slot_list_count ⟨_, ho, rfl⟩ PySem.F.entry_list_count (PySem.F.args_list_count_2 _ _) (SeqAt.list_countAt p its.toArray n dd sl u (eqU y)) ⟨ho, fun z hz => mem_eqAt ru fy rv fa z (by simpa using hz), ?_⟩
  have ec : its.toArray.toList.countP (eqU y) = ys.countP (fun z => eqV z y) := count_eqU rv fa
  refine ⟨.int (ys.countP (fun z => eqV z y) : Nat), H, I.tok _, ⟨s.toks, ?_⟩, q⟩
  rw [ec]
end BF

/-! ### enumerate(tuple) -/
namespace BF
open PySem PySem.Spec PyProof.Rows L2
open PySem.AutoSeq1 (wpAny_loadPart')
theorem enum_newT (l : Addr) (its : Array Value) (n : Nat) (dd : Option Addr) (sl : Array (Option Value)) :
    Meets (Builtin.«enumerate.__new__» ⟨[.type "enumerate", .ref l], []⟩) (fun _ R s => s.heap.get? l = some { cls := .type "tuple", dict := dd, data := .seq its n, slots := sl } ∧
      R (.ok (.ret (.ref (s.heap.push { cls := .type "tuple_iterator", data := .fields #[.ref l, .int 0 0] }).objs.size)))
        { s with heap := (s.heap.push { cls := .type "tuple_iterator", data := .fields #[.ref l, .int 0 0] }).push { cls := .type "enumerate", data := .fields #[.none, .bool false, .ref s.heap.objs.size, rawInt 0, .none, .none] } }) :=
  .of_wp fun prog w A R s h => by
    obtain ⟨hp, g, d, tk, os⟩ := s
    obtain ⟨hl, h⟩ := h
    have sub := sub_enumerate
    have tl : Heap.IsTuple (Shared.heap ⟨hp, g, d, tk, os⟩) l its := ⟨_, hl, rfl, n, rfl⟩
    wp_walk using wpAny_loadPart' hl
    refine wpAny_stack_any fun st => wpAny_pure ?_
    split
    · rename_i c _ _ _ _ _
      cases (c == Value.type "enumerate") <;> (wp_walk using wpAny_loadPart' hl, wpAny_pyIter_tuple tl; exact ⟨_, rfl, h⟩)
    · wp_walk using wpAny_loadPart' hl, wpAny_pyIter_tuple tl
      exact ⟨_, rfl, h⟩
theorem call_enumT {prog : Program} {w : World} {A : Around} {E : Value → Shared → Prop} {s : Shared} {l : Addr} {items : Array Value} {Q : Value → Shared → Prop} (hL : IsTup s.heap l items)
    (h : ∀ h', IsEnum h' (s.heap.objs.size + 1) s.heap.objs.size 0 .none → h'.IsTupleIter s.heap.objs.size l 0 → (∀ b o, s.heap.get? b = some o → h'.get? b = some o) → Q (.ref (s.heap.objs.size + 1)) { s with heap := h' }) :
    wpAny (model prog w) A (call (.type "enumerate") [.ref l]) Q E s := by
  obtain ⟨⟨c, dd, dt, sl⟩, hl, e1, n, e2⟩ := hL
  simp only at e1 e2
  subst e1 e2
  refine callType_new F.called_enumerate (by decide) (F.typeCall_enumerate_1 _) (F.newCall_enumerate_1 _) (fun obj => F.args_object_init_2 obj _) F.entry_enumerate_new (enum_newT l items n dd sl) ⟨hl, ?_⟩
  have hz : (s.heap.push { cls := .type "tuple_iterator", data := .fields #[.ref l, .int 0 0] }).objs.size = s.heap.objs.size + 1 := Heap.size_push ..
  show _ ∧ _
  rw [hz]
  have he : IsEnum ((s.heap.push { cls := .type "tuple_iterator", data := .fields #[.ref l, .int 0 0] }).push { cls := .type "enumerate", data := .fields #[.none, .bool false, .ref s.heap.objs.size, rawInt 0, .none, .none] }) (s.heap.objs.size + 1) s.heap.objs.size 0 .none := by
    have z := Heap.get?_push_size (s.heap.push { cls := .type "tuple_iterator", data := .fields #[.ref l, .int 0 0] }) (o := { cls := .type "enumerate", data := .fields #[.none, .bool false, .ref s.heap.objs.size, rawInt 0, .none, .none] }) rfl
    rw [hz] at z
    exact z
  exact ⟨⟨_, he, rfl⟩, h _ he ⟨_, Heap.get?_push_of_some _ (Heap.get?_push_size _ rfl), rfl, rfl⟩ fun b o x => Heap.get?_push_of_some _ (Heap.get?_push_of_some _ x)⟩
theorem enum_endT {prog : Program} {w : World} {A : Around} {E : Value → Shared → Prop} {s : Shared} {e it t : Addr} {j : Nat} {i : Int} {old : Value} {items : Array Value} {Q : Option Value → Shared → Prop} (hh : A.in1.handled = none) (he : IsEnum s.heap e it i old)
    (hit : s.heap.IsTupleIter it t j) (ht : s.heap.IsTuple t items) (hx : items[j]? = none) (hQ : ∀ h', Heap.ExtBut it s.heap h' → Q none { s with heap := h' }) : wpAny (model prog w) A (pyNext (.ref e)) Q E s := by
  have ty : s.TypeIs (.ref e) "enumerate" := ⟨_, he, rfl⟩
  unfold pyNext
  refine wpAny_bind (wpAny_attempt (wpAny_callSpecial?_slot (name := Str.ofString "__next__") ty F.slot_enumerate_next (wpAny_call_entry F.slot_enumerate_next ty F.entry_enumerate_next ?_ (F.args_enumerate_next_1 _))))
  show wpAny _ _ (field (.ref e) 2 >>= _) _ _ _
  refine wpAny_bind (wpAny_field he rfl (x := .ref it) rfl (wpAny_bind (wpAny_nextOf_tuple_end hh hit ht hx fun h' x he' ⟨o, ho, hc⟩ => ?_)))
  exact wpAny_bind (wpAny_isInstance (T := "StopIteration") (b := true) ⟨o, ho, hc⟩ isSubtype_stop (wpAny_pure (hQ _ he')))
/-- the tuple at a, each item in a new pair -/
def IteT (K : PySem.W.Frag) (a : Addr) : It :=
  ⟨fun i H => ∃ (xs : List V) (x : V), SqT K H a xs ∧ xs[i]? = some x, fun i H v H' => ∃ T x, v = .ref T ∧ H T = none ∧ H' = upd H T (.tup [.int (i : Nat), x]) ∧ ∀ xs, SqT K H a xs → xs[i]? = some x, fun i H => ∃ xs : List V, SqT K H a xs ∧ xs.length ≤ i⟩
theorem turn_enumT {P : Program} {w : World} {K : PySem.W.Frag} {elts : List Expr} {kk : Nat} {tpos : Pos} (a e it : Addr) :
    Turn P w K (.Tuple elts kk tpos) (IteT K a) [e, it] e (fun i h => (∃ old, IsEnum h e it ((i : Nat) : Int) old) ∧ h.IsTupleIter it a i ∧ e ≠ it ∧ a ≠ it ∧ e ≠ a) where
  mem := by simp
  obj := fun i h st b hb => by
    obtain ⟨⟨old, he⟩, ⟨o, ho, hc, hd⟩, _⟩ := st
    have z : b = e ∨ b = it := by simpa using hb
    rcases z with rfl | rfl
    · exact ⟨_, he, fun v q => nomatch q⟩
    · exact ⟨o, ho, fun v q => by rw [hd] at q; cases q⟩
  keep := fun i h h' st k => let ⟨⟨old, he⟩, hi, r⟩ := st; ⟨⟨old, k e (by simp) _ he⟩, hi.at fun o q => k it (by simp) o q, r⟩
  item := by
    intro X hP hw hK hc i pins s σ H E I hf st hg
    subst hP hw hK
    obtain ⟨⟨old, he⟩, hit, hne, hai, hea⟩ := st
    obtain ⟨xs, x, hq, hx⟩ := hg
    obtain ⟨its, rv, p, hz⟩ := I.tuple hq
    obtain ⟨u, hu, ru⟩ := rv.get hx
    have hel : e < s.heap.objs.size := Heap.lt_size he
    have hil : it < s.heap.objs.size := by obtain ⟨_, q, _⟩ := hit; exact Heap.lt_size q
    have hd : X.A.in1.handled = none := I.ok.hd hc
    have hlt : i < its.toArray.size := by
      have := (List.getElem?_eq_some_iff.mp hu).1
      simpa using this
    refine wpAny_pyNext_enum_itemD (Draws.tuple hd it a hai its.toArray) he ⟨hit, p⟩ hlt hne (by simp [hne, hea]) fun u' h' tk hu' ho hst hT hsz hk => ?_
    have eu : u' = u := by
      have hu2 : its[i]? = some u' := by simpa using hu'
      rw [hu] at hu2
      exact (Option.some.inj hu2).symm
    subst eu
    refine ⟨_, rfl, wpAny_letOwnedTupleGo_enum (s := { s with heap := h', toks := tk + 1 }) ho fun h'' he' sb => ?_⟩
    have hT2 : h''.get? s.heap.objs.size = some { cls := .type "tuple", data := .seq #[.int i tk, u'] } := (sb.2 _ (Nat.ne_of_gt hel)).trans hT
    have new : ObjOk X.prog X.w (upd H s.heap.objs.size (.tup [.int (i : Nat), x])) h'' s.heap.objs.size (.tup [.int (i : Nat), x]) := ⟨by show 2 ≤ sizeLine; decide, [.int i tk, u'], .cons ⟨_, rfl⟩ (.cons ru .nil), ⟨_, hT2, rfl, _, rfl⟩⟩
    have J : Inv X pins σ (upd H s.heap.objs.size (.tup [.int (i : Nat), x])) { s with heap := h'', toks := tk + 1 } := I.turnedNew (ch := [e, it]) (fun b ob hb q => (sb.2 b (fun z => hb (by simp [z]))).trans (hk b ob (fun z => hb (by simp [z])) (fun z => hb (by simp [z])) q)) hf (Nat.le_refl _) new
    refine ⟨.ref s.heap.objs.size, _, J, rfl, ⟨_, x, rfl, I.hok.fresh (Nat.le_refl _), rfl, fun ys hy => by rw [I.tuple_inj hy hq]; exact hx⟩, ⟨⟨u', ?_⟩, hst.1.at fun o q => (sb.2 it (Ne.symm hne)).trans q, hne, hai, hea⟩, fun b hb => ?_⟩
    · rw [show ((i + 1 : Nat) : Int) = (i : Int) + 1 by omega]
      exact he'
    · have hb' : b < s.heap.objs.size := by
        have z : b = e ∨ b = it := by simpa using hb
        rcases z with rfl | rfl
        · exact hel
        · exact hil
      rw [upd_ne (Nat.ne_of_lt hb')]
      exact (hf b hb).1
  done := by
    intro X hP hw hK hc i pins s σ H E I hf st hg
    subst hP hw hK
    obtain ⟨⟨old, he⟩, hit, hne, hai, hea⟩ := st
    obtain ⟨xs, hq, hx⟩ := hg
    obtain ⟨its, rv, p, hz⟩ := I.tuple hq
    obtain ⟨f0, f1, f2, f3, f4, f5⟩ := hf it (by simp)
    have hd : X.A.in1.handled = none := I.ok.hd hc
    have hl := rv.length
    exact enum_endT hd he hit p (by simp; omega) fun h' eb => ⟨rfl, I.turned (t' := s.toks) (fun b o hb q => eb b o hb q) f0 f1 f3 f4 f5⟩
  self := fun A i s Q E st h => let ⟨⟨_, he⟩, _⟩ := st; wpAny_pyIter_enum he h
def iEnumT (K : PySem.W.Frag) (ta : TA) : TI := fun σ H R => ta σ H fun vs H1 => ∃ a xs, vs = [.ref a] ∧ SqT K H1 a xs ∧ R (IteT K a) H1
theorem pi_enumT {X : Cx} {e : Expr} {ta : TA} {p pos tpos : Pos} {elts : List Expr} {kk : Nat} (hg : Gl X "enumerate") (hm : X.mg "enumerate" = none) (ha : PA X [e] ta) (hs : starEach [e] X.env = [(false, eval e X.env)] := by rfl) :
    PI X (.Tuple elts kk tpos) (.Call (.Name "enumerate" p) [e] [] pos) (iEnumT X.K ta) := by
  refine ⟨fun pins s σ H R I h => Call_ (ld_blt I hg hm boot_enumerate (PyProof.Rows.callWith_type1 (thn (ha.run pos pins s σ H _ I h) fun us s1 ⟨vs, H1, J, r1, q1⟩ => ?_) hs rfl))⟩
  obtain ⟨a, xs, ex, hq, q⟩ := q1
  subst ex
  cases r1 with
  | cons r rr =>
    cases rr
    cases r
    obtain ⟨its, rv, tp, hz⟩ := J.tuple hq
    have hal : a < s1.heap.objs.size := by
      obtain ⟨o, ho, _⟩ := tp
      exact Heap.lt_size ho
    refine call_enumT tp fun h' he hit hk => wpAny_pyIter_enum he ?_
    have J2 : Inv X pins σ H1 { s1 with heap := h' } := J.kept (t' := s1.toks) hk
    refine ⟨s1.heap.objs.size + 1, [s1.heap.objs.size + 1, s1.heap.objs.size], _, _, H1, rfl, J2, turn_enumT a (s1.heap.objs.size + 1) s1.heap.objs.size, ⟨⟨.none, he⟩, hit, Nat.succ_ne_self _, Nat.ne_of_lt hal, Nat.ne_of_gt (Nat.lt_succ_of_lt hal)⟩, fun b hb => ?_, q⟩
    have z : b = s1.heap.objs.size + 1 ∨ b = s1.heap.objs.size := by simpa using hb
    have hle : s1.heap.objs.size ≤ b := by
      rcases z with rfl | rfl
      · exact Nat.le_succ _
      · exact Nat.le_refl _
    exact J.fpOk hle (J.hok.fresh hle)
/-- a comprehension over enumerate(tuple) -/
theorem lc_enumT {K : PySem.W.Frag} {a : Addr} {xs : List V} {g : TG} {tt : TT} {te : TE} {vs : List Nat} {σ : L2.St} {H1 : Hp} {D : Addr} {Qd : Hp → Prop} (Pv : Nat → Hp → Prop) (h0 : Pv 0 (upd H1 D (.lst []))) (hl : ∀ i H, i ≤ xs.length → Pv i H → SqT K H a xs)
    (hs : ∀ i x T H, xs[i]? = some x → Pv i H → H T = none → g (.ref T) (wipe σ vs) (upd H T (.tup [.int (i : Nat), x])) fun σ2 H2 => wipe σ2 vs = wipe σ vs ∧ tt σ2 H2 fun b H3 =>
      if b = true then te σ2 H3 fun y H4 => ∃ acc, H4 D = some (.lst acc) ∧ acc.length < sizeLine ∧ Pv (i + 1) (upd H4 D (.lst (acc ++ [y]))) else Pv (i + 1) H3) (hd : ∀ H, Pv xs.length H → Qd H) :
    ∃ W : Nat → Nat → Hp → Prop, (∃ m, W 0 m (upd H1 D (.lst []))) ∧ ∀ i m H, W i m H →
      ((IteT K a).stop i H ∧ Qd H) ∨ ((IteT K a).go i H ∧ ∃ Nx : Hp → Prop, (∀ H', Nx H' → ∃ m', m' < m ∧ W (i + 1) m' H') ∧ ∀ x H', (IteT K a).yld i H x H' → g x (wipe σ vs) H' fun σ2 H2 => wipe σ2 vs = wipe σ vs ∧ tt σ2 H2 fun b H3 =>
        if b = true then te σ2 H3 fun y H4 => ∃ acc, H4 D = some (.lst acc) ∧ acc.length < sizeLine ∧ Nx (upd H4 D (.lst (acc ++ [y]))) else Nx H3) := by
  refine ⟨fun i m H => m = xs.length - i ∧ i ≤ xs.length ∧ Pv i H, ⟨_, rfl, Nat.zero_le _, h0⟩, ?_⟩
  rintro i m H ⟨rfl, hi, p⟩
  have sq := hl i H hi p
  by_cases c : i < xs.length
  · refine .inr ⟨⟨xs, xs[i], sq, by simp [c]⟩, Pv (i + 1), fun H' p' => ⟨xs.length - (i + 1), by omega, rfl, c, p'⟩, fun x H' y => ?_⟩
    obtain ⟨T, z, rfl, hT, rfl, hx⟩ := y
    exact hs i z T H (hx xs sq) p hT
  · have e : i = xs.length := by omega
    subst e
    exact .inl ⟨⟨xs, sq, Nat.le_refl _⟩, hd H p⟩
end BF

/-! ### the answers' classes -/
namespace BF
open PySem PySem.Spec PyProof.Rows L2
inductive Cl where
  | answer | laid | striped | short | full | beyond | twice | bare
deriving DecidableEq
def Cl.nm : Cl → Str
  | .answer => "Answer"
  | .laid => "Laid"
  | .striped => "Striped"
  | .short => "Short"
  | .full => "Full"
  | .beyond => "Beyond"
  | .twice => "Twice"
  | .bare => "Bare"
/-- its field -/
def Cl.fld : Cl → Str
  | .beyond => "count"
  | .twice => "cell"
  | .bare => "cell"
  | _ => "which"
def Cl.has : List Cl := [.answer, .full, .beyond, .twice, .bare]
abbrev cl (K : PySem.W.Frag) (x : Cl) : Addr := He.ga K x.nm
structure ClF (K : PySem.W.Frag) (x : Cl) : Prop where
  c : Cls K (cl K x)
  ha : PySem.W.findIn K (.ref (cl K x)) "__class__" = some (some (.builtin "object.__class__"))
  hn : PySem.W.specialIn K (.builtin "object.__class__") "__get__" = some (some (.builtin "getset_descriptor.__get__"))
  tk : PySem.W.takesIn K (.builtin "object.__class__") = some true
  mr : PySem.W.mroIn K (cl K x) (.type "object") = some true
  kp : PySem.W.keepIn K (.ref (cl K x)) = true
  made : PySem.W.makesIn K (cl K x) = true
  no : NoAttr K (cl K x) x.fld
  kit : ∀ y ∈ Cl.has, PySem.W.kitOne K (.ref (cl K x)) (.ref (cl K y)) = some (decide (y = x) || decide (y = .answer))
  tyk : ∀ T ∈ ["int", "bool", "tuple", "list"], PySem.W.kitOne K (.ref (cl K x)) (.type T) = some false
structure ClG (K : PySem.W.Frag) (mg : Str → Option Value) : Prop where
  g : ∀ x ∈ Cl.has, mg x.nm = some (.ref (cl K x))
  f : ∀ x ∈ Cl.has, ClF K x
def clB (K : PySem.W.Frag) (x : Cl) : Bool := (He.Fa.glo x.nm).ok K && ((He.Fa.cls x.nm).ok K && (decide (PySem.W.findIn K (.ref (cl K x)) "__class__" = some (some (.builtin "object.__class__"))) &&
  (decide (PySem.W.specialIn K (.builtin "object.__class__") "__get__" = some (some (.builtin "getset_descriptor.__get__"))) && (decide (PySem.W.takesIn K (.builtin "object.__class__") = some true) &&
  (decide (PySem.W.mroIn K (cl K x) (.type "object") = some true) && (PySem.W.keepIn K (.ref (cl K x)) && (PySem.W.makesIn K (cl K x) && ((He.Fa.noat x.nm x.fld).ok K &&
  ((Cl.has.all fun y => decide (PySem.W.kitOne K (.ref (cl K x)) (.ref (cl K y)) = some (decide (y = x) || decide (y = .answer)))) && (["int", "bool", "tuple", "list"].all fun T => decide (PySem.W.kitOne K (.ref (cl K x)) (.type T) = some false)))))))))))
theorem clB_ok {K : PySem.W.Frag} {h : Heap} {mg : Str → Option Value} (X : K.In h) (G : h.Ns mainGlobals mg) (c : (Cl.has.all (clB K)) = true) : ClG K mg := by
  have a := List.all_eq_true.mp c
  refine ⟨fun x hx => ?_, fun x hx => ?_⟩
  · have b := a x hx
    unfold clB at b
    exact He.glo_ok X G (He.ba b).1
  · have b := a x hx
    unfold clB at b
    obtain ⟨_, b⟩ := He.ba b
    obtain ⟨b1, b⟩ := He.ba b
    obtain ⟨b2, b⟩ := He.ba b
    obtain ⟨b3, b⟩ := He.ba b
    obtain ⟨b4, b⟩ := He.ba b
    obtain ⟨b5, b⟩ := He.ba b
    obtain ⟨b6, b⟩ := He.ba b
    obtain ⟨b7, b⟩ := He.ba b
    obtain ⟨b8, b⟩ := He.ba b
    obtain ⟨b9, b10⟩ := He.ba b
    exact ⟨He.cls_ok b1, of_decide_eq_true b2, of_decide_eq_true b3, of_decide_eq_true b4, of_decide_eq_true b5, b6, b7, He.noat_ok b8, fun y hy => of_decide_eq_true (List.all_eq_true.mp b9 y hy), fun T hT => of_decide_eq_true (List.all_eq_true.mp b10 T hT)⟩
/-- an answer: its class, its field -/
inductive Ans where
  | laid | full
  | striped (v : V) | short (v : V) | beyond (v : V) | twice (v : V) | bare (v : V)
def Ans.cl : Ans → Cl
  | .laid => .laid
  | .full => .full
  | .striped _ => .striped
  | .short _ => .short
  | .beyond _ => .beyond
  | .twice _ => .twice
  | .bare _ => .bare
def Ans.fs : Ans → List (Str × V)
  | .laid => []
  | .full => []
  | .striped v => [("which", v)]
  | .short v => [("which", v)]
  | .beyond v => [("count", v)]
  | .twice v => [("cell", v)]
  | .bare v => [("cell", v)]
def AnsAt (K : PySem.W.Frag) (H : Hp) (p : Addr) (a : Ans) : Prop := ∃ dx, H p = some (.ins (cl K a.cl) dx a.fs)
theorem AnsAt.mono {K : PySem.W.Frag} {H H' : Hp} {p : Addr} {a : Ans} (h : AnsAt K H p a) (sm : Same H H') : AnsAt K H' p a := let ⟨dx, e⟩ := h; ⟨dx, sm _ _ e⟩
theorem AnsAt.ty {K : PySem.W.Frag} {H : Hp} {p : Addr} {a : Ans} (h : AnsAt K H p a) (F : ClF K a.cl) : TyX K H (.ref p) (.ref (BF.cl K a.cl)) := let ⟨_, e⟩ := h; .base (.ins e F.c F.ha F.hn F.tk F.mr)
/-- isinstance(answer, Class) -/
theorem tyA {K : PySem.W.Frag} {mg : Str → Option Value} {H : Hp} {p : Addr} {a : Ans} (G : ClG K mg) (h : AnsAt K H p a) (ha : a.cl ∈ Cl.has := by exact mem_has _) : TyX K H (.ref p) (.ref (BF.cl K a.cl)) := h.ty (G.f _ ha)
theorem kitA {K : PySem.W.Frag} {mg : Str → Option Value} (G : ClG K mg) (a : Ans) (y : Cl) (ha : a.cl ∈ Cl.has := by exact mem_has _) (hy : y ∈ Cl.has := by decide) : PySem.W.kitOne K (.ref (BF.cl K a.cl)) (.ref (BF.cl K y)) = some (decide (y = a.cl) || decide (y = .answer)) := (G.f _ ha).kit y hy
/-- a method of a class -/
def PlM (K : PySem.W.Frag) (x : Cl) (m q : Str) (st : Stmt) : Prop := ∃ f fd, FnP K m q st f fd ∧ Meth K (cl K x) m f
def HasM (P : Program) (w : World) (K : PySem.W.Frag) (mg : Str → Option Value) (base : Heap) (C : CXT) (k : Nat) (x : Cl) (m : Str) (ps : List Str) (sp : Sp) : Prop :=
  ∃ f fd, FnOk P w K mg base C k f fd ps sp ∧ Meth K (cl K x) m f ∧ Binds K fd ps []
section
variable {P : Program} {w : World} {K : PySem.W.Frag} {mg : Str → Option Value} {base : Heap} {x : Cl} {m q : Str} {st : Stmt} {N ps : List Str} {k : Nat} {sp : Sp}
theorem PlM.mk0 (p : PlM K x m q st) (S : FnScope N ps (defScope st))
    (hb : ∀ (kV doc pm : Value) (an : Option Addr) (cdv ct : Value) (us : List Value), us.length = ps.length → bindArgs (PySem.W.fnOf m q (defArgs st) (defBody st) (defScope st) .none kV doc pm an cdv ct) ⟨us, []⟩ = pure (ps.zip us))
    (len : ∀ vs H Q E, sp vs H Q E → vs.length = ps.length)
    (body : ∀ (f : Addr) (cdv : Value) (A : Around) (outer : List Env) (s : Shared) (H : Hp) (vs : List V) (Q : VK) (E : XK), Room k (A.deeper (envOfC q (defScope st) s.heap.objs.size f cdv)) → sp vs H Q E →
      ∃ t, PSs (cxOf CX0 P w K mg base N q (defScope st) f cdv A outer s H E).nox (defBody st) t ∧ t { nx := fun _ H' => Q .non H', rt := Q } (start N vs) H) : HasM P w K mg base CX0 (k + 1) x m ps sp := by
  obtain ⟨f, fd, F, g⟩ := p
  exact ⟨f, fd, F.ok S len (fun cdv A outer s H vs Q E hr h => by
    obtain ⟨t, a, b⟩ := body f cdv A outer s H vs Q E hr h
    exact ⟨t, a.nox, b⟩), g, F.bindsN hb⟩
end
section
variable {X : Cx} {CX : CXT} {k : Nat} {C : Addr} {ps : List Str} {E : XK} {m : Str} {pos apos : Pos} {e o : Expr} {es : List Expr} {ta : TE} {t : TA} {x : Cl}
theorem pe_any {ι : Type} {e : Expr} {Ok : ι → Prop} {t : ι → TE} (h : ∀ i, Ok i → PE X e (t i)) : PE X e (fun σ H Q => ∃ i, Ok i ∧ t i σ H Q) := ⟨fun pins s σ H Q I ⟨i, hi, q⟩ => (h i hi).run pins s σ H Q I q⟩
/-- o.m(..), o an answer of one of several classes -/
def tMethA (K : PySem.W.Frag) (Ok : Cl → Prop) (m : Str) (sp : Cl → Sp) (E : XK) (ta : TE) (t : TA) : TE := fun σ H Q => ∃ x, Ok x ∧ tMeth (cl K x) m (sp x) [] E ta t σ H Q
theorem pe_methA {pl : Sem Bool} {Ok : Cl → Prop} {sp : Cl → Sp} (h : ∀ x, Ok x → HasM X.prog X.w X.K X.mg X.base CX k x m ps (sp x)) (c : ∀ x, Ok x → Cls X.K (cl X.K x)) (hr : Room k X.A) (hx : Passes CX X E) (he : PE X o ta) (ha : PA X (e :: es) t)
    (hst : starEach (e :: es) X.env = (false, eval e X.env) :: starEach es X.env := by rfl) (hpl : (backTo pos (starEach es X.env)).any (·.1) = false := by rfl)
    (ht : eval (.Call (.Attribute o m apos) (e :: es) [] pos) X.env = (do
      let ov ← eval o X.env
      standAt apos.atName
      let (f, first) ← holding [ov] (getMethod ov m pl)
      callWith pos f first (backTo pos (starEach (e :: es) X.env)) (backToKw pos (keywordEach [] X.env))) := by rfl) :
    PE X (.Call (.Attribute o m apos) (e :: es) [] pos) (tMethA X.K Ok m sp E ta t) :=
  pe_any (Ok := Ok) (t := fun x => tMeth (cl X.K x) m (sp x) [] E ta t) fun x hx' => by
    obtain ⟨f, fd, F, M, b⟩ := h x hx'
    exact pe_meth (pl := pl) he (c x hx') M F hr b .nil hx ha hst hpl ht
/-- __init__(self, v): self.f = v -/
inductive SpInit (K : PySem.W.Frag) (x : Cl) : Sp where
  | mk {p dx : Addr} {v : V} {H : Hp} {Q : VK} {E : XK} (h : H p = some (.ins (cl K x) dx [])) (q : Q .non (upd H p (.ins (cl K x) dx [(x.fld, v)]))) : SpInit K x [.ref p, v] H Q E
def Cl.of : Cl → V → Ans
  | .striped, v => .striped v
  | .short, v => .short v
  | .beyond, v => .beyond v
  | .twice, v => .twice v
  | .bare, v => .bare v
  | .full, _ => .full
  | _, _ => .laid
def Cl.has1 : Cl → Prop
  | .striped => True
  | .short => True
  | .beyond => True
  | .twice => True
  | .bare => True
  | _ => False
theorem Cl.of_cl {x : Cl} (h : x.has1) (v : V) : (x.of v).cl = x ∧ (x.of v).fs = [(x.fld, v)] := by
  cases x <;> first | exact ⟨rfl, rfl⟩ | exact h.elim
/-- Class(e) -/
def tMk1 (K : PySem.W.Frag) (x : Cl) (t : TA) : TE := fun σ H Q => t σ H fun vs H1 => ∃ v, vs = [v] ∧ ∀ p H2, H1 p = none → Same H1 H2 → AnsAt K H2 p (x.of v) → Q (.ref p) H2
theorem pe_mk1 (M : Mk X.K (cl X.K x) (He.ma X.K (cl X.K x) "__init__")) (h : HasM X.prog X.w X.K X.mg X.base CX0 k x "__init__" ps (SpInit X.K x)) (h1 : x.has1) (hr : Room (k + 1) X.A) {y : Str} {p : Pos} (hm : X.mg y = some (.ref (cl X.K x))) (ha : PA X (e :: es) t)
    (hg : Gl X y := by rfl) (hdb : (y == ("__debug__" : Str)) = false := by decide) (he : starEach (e :: es) X.env = (false, eval e X.env) :: starEach es X.env := by rfl) (hpl : (backTo pos (starEach es X.env)).any (·.1) = false := by rfl) :
    PE X (.Call (.Name y p) (e :: es) [] pos) (tMk1 X.K x t) := by
  obtain ⟨f, fd, F, m, b⟩ := h
  refine ⟨fun pins s σ H Q I hh => wpAny_Call_Name_kw (ld_glob I hg hm ?_ hdb)⟩
  refine PySem.W.callWith_K (h₀ := X.base) I.ok.mod.kin M.kp (thn (ha.run pos pins s σ H _ I hh) fun us s1 ⟨vs, H1, J, r, v, ev, z⟩ => ⟨J.kIn, ?_⟩) he hpl
  subst ev
  have M2 : Mk X.K (cl X.K x) f := ⟨M.makes, m.at_, m.fn, M.kp⟩
  refine run_make (dvs := []) (E := E0) M2 F hr b .nil pass0 J r fun q dx nq nd ne => .mk (dx := dx) upd_same ⟨rfl, z q _ nq (fun b o eb => ?_) ?_⟩
  · have b1 := ne_of_none eb nq
    have b2 := ne_of_none eb nd
    rw [upd_ne b1, upd_ne b1, upd_ne b2]
    exact eb
  · refine ⟨dx, ?_⟩
    rw [(Cl.of_cl h1 v).1, (Cl.of_cl h1 v).2]
    exact upd_same
/-- Class(), without an __init__ -/
def tMk0 (K : PySem.W.Frag) (x : Cl) : TE := fun σ H Q => ∀ p H2, H p = none → Same H H2 → (∃ dx, H2 p = some (.ins (cl K x) dx [])) → Q (.ref p) H2
theorem run_plain {pins : List (Addr × Obj)} {σ : L2.St} {H : Hp} {s : Shared} {Q : VK} (hm : PySem.W.makesIn X.K C = true) (hi : PySem.W.findIn X.K (.ref C) "__init__" = some (some (.builtin "object.__init__"))) (I : Inv X pins σ H s)
    (h : ∀ x dx, H x = none → H dx = none → dx ≠ x → Q (.ref x) (upd (upd H dx (.own x)) x (.ins C dx []))) : wpAny (model X.prog X.w) X.A (call (.ref C) []) (EP X pins σ Q) X.xe s := by
  have J := Inv.made (C := C) I
  have z := h (s.heap.objs.size + 1) s.heap.objs.size (I.hok.fresh (Nat.le_succ _)) (I.hok.fresh (Nat.le_refl _)) (Nat.ne_of_lt (Nat.lt_succ_self _))
  have Y := PySem.W.makes_of (M := model X.prog X.w) I.kIn hm
  refine wpAny_call (make_map0 (K := X.K) I.kIn hm hi (fun self => PySem.W.Looks.of_pure (PySem.W.oi_bind self)) ?_)
  have e2 : ((s.heap.push PySem.W.emptyDict).push (PySem.W.instObj C s.heap.objs.size)).get? (s.heap.objs.size + 1) = some (PySem.W.instObj C s.heap.objs.size) := by
    have := Heap.get?_push_size (s.heap.push PySem.W.emptyDict) (o := PySem.W.instObj C s.heap.objs.size) rfl
    rwa [Heap.size_push] at this
  have u1 : PySem.W.Looks (model X.prog X.w) ((s.heap.push PySem.W.emptyDict).push (PySem.W.instObj C s.heap.objs.size)) (typeOf (.ref (s.heap.objs.size + 1))) (.ref C) := (PySem.W.Looks.ld e2).andThen .now
  have u2 : PySem.W.Looks (model X.prog X.w) ((s.heap.push PySem.W.emptyDict).push (PySem.W.instObj C s.heap.objs.size)) (isInstance (.ref (s.heap.objs.size + 1)) (.type "object")) true :=
    u1.andThen (Y.top.keeps fun b o e => Heap.get?_push_of_some _ (Heap.get?_push_of_some _ e))
  refine codeAny_call_builtin PySem.W.oi_plain PySem.W.entry_oi (@PySem.W.check_slot (model X.prog X.w) _ _ _ "object.__init__" "object" "__init__" (.ref (s.heap.objs.size + 1)) [] [] _ PySem.W.oi_kind PySem.W.oi_split u2 (PySem.W.oi_args (.ref (s.heap.objs.size + 1))) ?_)
  rw [PySem.W.oi_run]
  exact wpAny_pure (And.intro rfl ⟨.ref (s.heap.objs.size + 1), _, J, rfl, z⟩)
theorem pe_mk0 (F : ClF X.K x) (hi : PySem.W.findIn X.K (.ref (cl X.K x)) "__init__" = some (some (.builtin "object.__init__"))) {y : Str} {p : Pos} (hm : X.mg y = some (.ref (cl X.K x))) (hg : Gl X y := by rfl) (hdb : (y == ("__debug__" : Str)) = false := by decide) :
    PE X (.Call (.Name y p) [] [] pos) (tMk0 X.K x) := by
  refine ⟨fun pins s σ H Q I h => wpAny_Call_Name_kw (ld_glob I hg hm ?_ hdb)⟩
  refine PySem.W.callWith_K0 I.kIn F.kp (run_plain F.made hi I fun q dx nq nd ne => h q _ nq (fun b o eb => ?_) ⟨dx, upd_same⟩)
  have b1 := ne_of_none eb nq
  have b2 := ne_of_none eb nd
  rw [upd_ne b1, upd_ne b2]
  exact eb
end
structure ClI (P : Program) (w : World) (K : PySem.W.Frag) (mg : Str → Option Value) (base : Heap) : Prop where
  mk1 : ∀ x ∈ Cl.has, x.has1 → Mk K (cl K x) (He.ma K (cl K x) "__init__")
  in1 : ∀ x ∈ Cl.has, x.has1 → HasM P w K mg base CX0 1 x "__init__" ["self", x.fld] (SpInit K x)
  in0 : ∀ x ∈ Cl.has, (x = .laid ∨ x = .full) → PySem.W.findIn K (.ref (cl K x)) "__init__" = some (some (.builtin "object.__init__"))
section
variable {X : Cx} {pos : Pos} {e : Expr} {es : List Expr} {t : TA} {x : Cl}
theorem pe_mkI (CI : ClI X.prog X.w X.K X.mg X.base) (G : ClG X.K X.mg) (hx : x ∈ Cl.has) (h1 : x.has1) (hr : Room 2 X.A) {y : Str} {p : Pos} (ha : PA X (e :: es) t) (hy : y = x.nm := by rfl) (hg : Gl X y := by rfl) (hdb : (y == ("__debug__" : Str)) = false := by decide)
    (he : starEach (e :: es) X.env = (false, eval e X.env) :: starEach es X.env := by rfl) (hpl : (backTo pos (starEach es X.env)).any (·.1) = false := by rfl) : PE X (.Call (.Name y p) (e :: es) [] pos) (tMk1 X.K x t) :=
  pe_mk1 (CI.mk1 x hx h1) (CI.in1 x hx h1) h1 hr (by rw [hy]; exact G.g x hx) ha hg hdb he hpl
theorem pe_mkN (CI : ClI X.prog X.w X.K X.mg X.base) (G : ClG X.K X.mg) (hx : x ∈ Cl.has) (h0 : x = .laid ∨ x = .full) {y : Str} {p : Pos} (hy : y = x.nm := by rfl) (hg : Gl X y := by rfl) (hdb : (y == ("__debug__" : Str)) = false := by decide) :
    PE X (.Call (.Name y p) [] [] pos) (tMk0 X.K x) := pe_mk0 (G.f x hx) (CI.in0 x hx h0) (by rw [hy]; exact G.g x hx) hg hdb
end
theorem HasM.mono {P : Program} {w : World} {K : PySem.W.Frag} {mg : Str → Option Value} {base : Heap} {C : CXT} {j k : Nat} {x : Cl} {m : Str} {ps : List Str} {sp : Sp} (h : HasM P w K mg base C j x m ps sp) (l : j ≤ k) : HasM P w K mg base C k x m ps sp :=
  let ⟨f, fd, F, r⟩ := h; ⟨f, fd, F.mono l, r⟩
def Ok4 (x : Cl) : Prop := x ∈ [Cl.laid, .striped, .short]
def Ok5 (x : Cl) : Prop := x ∈ [Cl.full, .beyond, .twice, .bare]
theorem ok5 {x : Cl} (h : Ok5 x) : x ∈ Cl.has := by
  unfold Ok5 at h
  cases x <;> first | decide | exact absurd h (by decide)
end BF

/-! short words for readings: walk_at "rd" takes all steps that are plain -/
local macro_rules | `(tactic| walk_at "bn") => `(tactic| first | with_reducible assumption | ((with_reducible show BF.Bn _ ((_ : Int) % _)); exact BF.Bn.mod (by walk_at "bn") (by walk_at "ps")) | ((with_reducible show BF.Bn _ ((_ : Int) / _)); exact BF.Bn.div (by walk_at "bn") (by walk_at "ps")) | ((with_reducible show BF.Bn _ ((_ : Int) * _)); exact BF.Bn.mul (by walk_at "bn") (by walk_at "bn")) | ((with_reducible show BF.Bn _ ((_ : Int) + _)); exact BF.Bn.add (by walk_at "bn") (by walk_at "bn")) | ((with_reducible show BF.Bn _ ((_ : Int) - _)); exact BF.Bn.sub (by walk_at "bn") (by walk_at "bn")) | exact BF.Sz.bn (by with_reducible assumption) | exact BF.bnl (n := 80) (by decide))
local macro_rules | `(tactic| walk_at "ps") => `(tactic| first | with_reducible assumption | decide | exact BF.Sz.pos (by with_reducible assumption) | omega)
local macro_rules | `(tactic| walk_at "sd") => `(tactic| first | with_reducible assumption | ((with_reducible show L2.CPow _ _); exact ⟨by decide, by decide, by decide⟩) | ((with_reducible show L2.CDivW _ _); first | exact BF.divOk_lit (by decide) (by decide) | exact BF.Bn.divOk (by walk_at "bn") (by walk_at "ps") (by decide) (by decide)) | ((with_reducible show L2.CMulX _ _); exact BF.Bn.mulOk (by walk_at "bn") (by walk_at "bn") (by decide)) | ((with_reducible show _ ≤ PySem.sizeLine); exact BF.size4 (by simp)) | ((with_reducible show (0 : Int) < _); walk_at "ps") | ((with_reducible show (_ : Int) ≤ _); omega) | ((with_reducible show (_ : Int) < _); omega))
local macro_rules | `(tactic| walk_at "rd1") => `(tactic| first | refine And.intro (by walk_at "sd") ?_ | refine ⟨_, rfl, ?_⟩ | refine And.intro rfl ?_ | refine ⟨_, _, rfl, rfl, ?_⟩ | refine ⟨_, _, rfl, ?_⟩ | refine ⟨_, _, _, rfl, ?_⟩)
local macro_rules | `(tactic| walk_at "rd") => `(tactic| repeat walk_at "rd1")

/-! ### sums.py -/
namespace BF
open PySem PySem.Spec PyProof.Rows L2
/-- is_number(x): x of the built-in type T -/
inductive SpIsNumber (K : PySem.W.Frag) : Sp where
  | mk {x : V} {T : String} {i b : Bool} {H : Hp} {Q : VK} {E : XK} (ty : TyX K H x (.type T)) (hi : kitB T "int" = some i) (hb : kitB T "bool" = some b) (q : Q (.bl (i && !b)) H) : SpIsNumber K [x] H Q E
theorem num_int {K : PySem.W.Frag} {H : Hp} {Q : VK} {E : XK} {n : Int} (q : Q (.bl true) H) : SpIsNumber K [.int n] H Q E := .mk (T := "int") (i := true) (b := false) (.base (.int n)) (by decide +kernel) (by decide +kernel) q
section
variable {P : Program} {w : World} {K : PySem.W.Frag} {mg : Str → Option Value} {base : Heap}
theorem H_is_number (p : Pl K mg "is_number" s_is_number) (B : Bi mg) : Has P w K mg base CX0 1 "is_number" ["thing"] (SpIsNumber K) := by
  refine p.mk0 sc_is_number (fun _ _ _ _ _ _ us hl => match us, hl with | [_], _ => rfl) (fun vs H Q E h => ?_) (fun f cdv A outer s H vs Q E hr h => ?_)
  · cases h; rfl
  · obtain @⟨x, T, i, b, _, _, _, hT, hi, hb, q⟩ := h
    refine ⟨_, (pss_one (ps_ret (pe_and (pe_callB (r := rIsi K) call_isi (by rfl) B.isinstance (by decide +kernel) (pa_cons (pv 0) (pa_cons (pe_bltn (v := .ty "int") (by rfl) B.int (by decide +kernel) rfl) pa_nil))) (pe_one (pe_not (pe_callB (r := rIsi K) call_isi (by rfl) B.isinstance (by decide +kernel) (pa_cons (pv 0) (pa_cons (pe_bltn (v := .ty "bool") (by rfl) B.bool (by decide +kernel) rfl) pa_nil)))))))), ?_⟩
    refine ⟨_, rfl, x, _, _, _, i, rfl, .ty "int", hT, kit_ty hi, i, rfl, ?_⟩
    cases i with
    | false => exact iteF q
    | true => exact iteT ⟨_, rfl, x, _, _, _, b, rfl, .ty "bool", hT, kit_ty hb, b, rfl, q⟩
theorem ints_at {ns : List Int} {i : Nat} {y : V} (h : (ns.map V.int)[i]? = some y) : ∃ n, ns[i]? = some n ∧ y = .int n := by
  rw [List.getElem?_map] at h
  cases e : ns[i]? with
  | none => rw [e] at h; cases h
  | some n =>
    rw [e] at h
    exact ⟨n, rfl, (Option.some.inj h).symm⟩
end
end BF

namespace BF
open PySem PySem.Spec PyProof.Rows L2
/-- check_sizes(some), all of them sizes -/
inductive SpCheckSizes (K : PySem.W.Frag) : Sp where
  | mk {a : Addr} {ns : List Int} {H : Hp} {Q : VK} {E : XK} (hS : SqL K H a (ns.map V.int)) (hp : ∀ n ∈ ns, 0 < n) (q : Q .non H) : SpCheckSizes K [.ref a] H Q E
section
variable {P : Program} {w : World} {K : PySem.W.Frag} {mg : Str → Option Value} {base : Heap}
theorem H_check_sizes (p : Pl K mg "check_sizes" s_check_sizes) (h_is_number : Has P w K mg base CX0 1 "is_number" ["thing"] (SpIsNumber K)) : Has P w K mg base CX0 2 "check_sizes" ["some"] (SpCheckSizes K) := by
  refine p.mk0 sc_check_sizes (fun _ _ _ _ _ _ us hl => match us, hl with | [_], _ => rfl) (fun vs H Q E h => ?_) (fun f cdv A outer s H vs Q E hr h => ?_)
  · cases h; rfl
  · obtain @⟨a, ns, _, _, _, hS, hp, q⟩ := h
    refine ⟨_, (pss_one (ps_for PassesOwn.never (by rfl) (pi_list (pv 0)) (pg_name (i := 1) sc_check_sizes.nd rfl (Or.inl rfl)) (pss_one (ps_if (PW.pt (pw_or (pt_not (pt_val (pe_fn h_is_number (hr.mono (by decide)) pass0 (pa_cons (pv 1) pa_nil)))) (pw_or1 (pt_cmpR op_lt (pv 1) pe_int (nomark _))))) (pss_one ps_never) pss_nil)))), ?_⟩
    refine ⟨_, rfl, a, rfl, ⟨_, hS⟩, for_list (K := K) (a := a) (xs := ns.map V.int) (fun i σ H' => H' = H ∧ ∃ y, σ = [some (.ref a), y]) ⟨rfl, none, rfl⟩ (fun i σ H' _ ⟨e, _⟩ => by rw [e]; exact hS) ?_ ?_⟩
    · rintro i y σ H' hi ⟨rfl, z, rfl⟩
      obtain ⟨n, hn, rfl⟩ := ints_at hi
      have h0 := hp n (List.mem_of_getElem? hn)
      refine ⟨_, rfl, num_int ⟨true, rfl, iteF ⟨_, rfl, _, _, rfl, rfl, _, rfl, ?_⟩⟩⟩
      rw [decide_eq_false (by omega)]
      exact iteF ⟨rfl, _, rfl⟩
    · rintro σ H' ⟨rfl, z, rfl⟩
      exact q
end
end BF

namespace BF
open PySem PySem.Spec PyProof.Rows L2
inductive SpShared : Sp where
  | mk {a b : Int} {H : Hp} {Q : VK} {E : XK} (ha : Sz a) (hb : Sz b) (q : ∀ g t p H', Good a b g t → g ≤ b → 0 ≤ t → t < b → Same H H' → H' p = some (.tup [.int g, .int t]) → Q (.ref p) H') : SpShared [.int a, .int b] H Q E
/-- what parts_of hands back: None, or a new pair -/
def tellParts (x : Option (Int × Int)) (H : Hp) (Q : VK) : Prop := match x with
  | none => ∀ H', Same H H' → Q .non H'
  | some y => ∀ p H', Same H H' → H p = none → H' p = some (.tup [.int y.1, .int y.2]) → Q (.ref p) H'
theorem tellParts.mono {x : Option (Int × Int)} {H H' : Hp} {Q : VK} (q : tellParts x H Q) (sm : Same H H') : tellParts x H' Q := by
  cases x with
  | none => exact fun H2 s2 => q H2 (sm.trans s2)
  | some y => exact fun p H2 s2 hn hp => q p H2 (sm.trans s2) (sm.free hn) hp
/-- the value that tells x -/
def Told (x : Option (Int × Int)) (H : Hp) (v : V) : Prop := match x with
  | none => v = .non
  | some y => ∃ p, v = .ref p ∧ H p = some (.tup [.int y.1, .int y.2])
theorem Told.mono {x : Option (Int × Int)} {H H' : Hp} {v : V} (h : Told x H v) (sm : Same H H') : Told x H' v := by
  cases x with
  | none => exact h
  | some y =>
    obtain ⟨p, e, hp⟩ := h
    exact ⟨p, e, sm _ _ hp⟩
theorem tell_of {x : Option (Int × Int)} {H : Hp} {Q : VK} (q : ∀ v H', Same H H' → Told x H' v → Q v H') : tellParts x H Q := by
  cases x with
  | none => exact fun H' sm => q _ H' sm rfl
  | some y => exact fun p H' sm _ hp => q _ H' sm ⟨p, rfl, hp⟩
inductive SpParts : Sp where
  | mk {s a b : Int} {H : Hp} {Q : VK} {E : XK} (hs : Sz s) (ha : Sz a) (hb : Sz b) (q : tellParts (parts s a b) H Q) : SpParts [.int s, .int a, .int b] H Q E
section
variable {P : Program} {w : World} {K : PySem.W.Frag} {mg : Str → Option Value} {base : Heap}
theorem H_shared (p : Pl K mg "shared" s_shared) : Has P w K mg base CX0 1 "shared" ["one", "other"] SpShared := by
  refine p.mk0 sc_shared (fun _ _ _ _ _ _ us hl => match us, hl with | [_, _], _ => rfl) (fun vs H Q E h => ?_) (fun f cdv A outer s H vs Q E hr h => ?_)
  · cases h; rfl
  · obtain @⟨a, b, _, _, _, ha, hb, q⟩ := h
    refine ⟨_, (pss_cons (ps_asg (pe_tup (pa_cons pe_int (pa_cons pe_int pa_nil))) (pg_tup (by rfl) (pgs_cons (pg_name (i := 2) sc_shared.nd rfl (Or.inl rfl)) (pgs_cons (pg_name (i := 3) sc_shared.nd rfl (Or.inl rfl)) pgs_nil))))
      (pss_cons (ps_set (i := 4) sc_shared.nd rfl (Or.inl rfl) (pv 1))
      (pss_cons (ps_while PassesOwn.never (pt_cmpR op_gt (pv 1) pe_int (nomark _)) (pss_cons (ps_set (i := 5) sc_shared.nd rfl (Or.inl rfl) (pe_op op_fdivW (pv 0) (pv 1)))
      (pss_cons (ps_par (i := 0) (j := 1) (by rfl) sc_shared.nd rfl rfl (by decide) rfl rfl (pa_cons (pv 1) (pa_cons (pe_op op_sub (pv 0) (pe_op op_mulX (pv 5) (pv 1))) pa_nil)) (by rfl))
      (pss_one (ps_par (i := 2) (j := 3) (by rfl) sc_shared.nd rfl rfl (by decide) rfl rfl (pa_cons (pv 3) (pa_cons (pe_op op_sub (pv 2) (pe_op op_mulX (pv 5) (pv 3))) pa_nil)) (by rfl))))))
      (pss_one (ps_ret (pe_tup (pa_cons (pv 0) (pa_cons (pe_op op_mod (pv 2) (pv 4)) pa_nil)))))))), ?_⟩
    refine ⟨by show 2 ≤ sizeLine; decide, fun p0 hp0 => ⟨p0, _, rfl, sqT upd_same, rfl, _, _, rfl, _, _, rfl, rfl, ?_⟩⟩
    have sm0 : Same H (upd H p0 (.tup [.int 1, .int 0])) := same_upd hp0
    refine ⟨_, rfl, while_by (fun σ H' => Same H H' ∧ ∃ one other mine theirs y, σ = [some (.int one), some (.int other), some (.int mine), some (.int theirs), some (.int b), y] ∧ ShInv a b one other mine theirs)
      (fun σ _ => slotN σ 1) ⟨sm0, a, b, 1, 0, none, rfl, ShInv.start ha.pos hb.pos⟩ ?_ (fun σ H Q Q' hq h => ?_)⟩
    · rintro σ H' ⟨sm, one, other, mine, theirs, y, rfl, I⟩
      have b1 : Bn 2000 one := by
        rcases I.l1 with l | l
        · exact ha.bn.of_le (Int.le_of_lt I.o1) l
        · exact hb.bn.of_le (Int.le_of_lt I.o1) l
      have b2 : Bn 2000 other := hb.bn.of_le I.o2 I.l2
      have b3 : Bn 2000 theirs := hb.bn.le I.theirs_le.1
      refine ⟨_, rfl, _, _, rfl, rfl, _, rfl, iteD (fun ho => ?_) (fun ho' => ?_)⟩
      · have ho : 0 < other := ho
        have bq : Bn 2000 (one / other) := b1.div ho
        obtain ⟨t1, t2, t3⟩ := I.turn ho
        refine ⟨_, rfl, _, rfl, _, _, rfl, rfl, b2.divOk ho (by decide) (by decide), ?_⟩
        refine ⟨_, rfl, _, rfl, _, rfl, _, rfl, _, _, rfl, rfl, bq.mulOk b2 (by decide), _, _, rfl, rfl, _, _, rfl, ?_⟩
        refine ⟨_, rfl, _, rfl, _, rfl, _, rfl, _, _, rfl, rfl, bq.mulOk b3 (by decide), _, _, rfl, rfl, _, _, rfl, ?_⟩
        exact ⟨⟨sm, _, _, _, _, _, rfl, t1⟩, (show (one - one / other * other).toNat < other.toNat by omega)⟩
      · have ho : other = 0 := by
          have h1 : ¬ 0 < other := ho'
          have h2 := I.o2
          omega
        subst ho
        obtain ⟨G, l⟩ := I.done ha.pos hb.pos
        refine ⟨_, rfl, _, rfl, _, rfl, _, _, rfl, rfl, hb.pos, by show 2 ≤ sizeLine; decide, fun p hp => ?_⟩
        exact q _ _ p _ G l (Int.emod_nonneg _ (Int.ne_of_gt hb.pos)) (Int.emod_lt_of_pos _ hb.pos) (sm.trans (same_upd hp)) upd_same
    · obtain ⟨v, e, i, j, e1, e2, k, e3, q⟩ := h
      exact ⟨v, e, i, j, e1, e2, k, e3, hq _ _ q⟩
theorem H_parts_of (p : Pl K mg "parts_of" s_parts_of) (h_shared : Has P w K mg base CX0 1 "shared" ["one", "other"] SpShared) : Has P w K mg base CX0 2 "parts_of" ["size", "first", "second"] SpParts := by
  refine p.mk0 sc_parts_of (fun _ _ _ _ _ _ us hl => match us, hl with | [_, _, _], _ => rfl) (fun vs H Q E h => ?_) (fun f cdv A outer s H vs Q E hr h => ?_)
  · cases h; rfl
  · obtain @⟨sz, a, b, _, _, _, hs, ha, hb, q⟩ := h
    refine ⟨_, (pss_cons (ps_asg (pe_fn h_shared (hr.mono (by decide)) pass0 (pa_cons (pv 1) (pa_cons (pv 2) pa_nil))) (pg_tup (by rfl) (pgs_cons (pg_name (i := 3) sc_parts_of.nd rfl (Or.inl rfl)) (pgs_cons (pg_name (i := 4) sc_parts_of.nd rfl (Or.inl rfl)) pgs_nil))))
      (pss_cons (ps_if (pt_cmpR op_ne (pe_op op_mod (pv 0) (pv 3)) pe_int (nomark _)) (pss_one (ps_ret pe_non)) pss_nil)
      (pss_cons (ps_set (i := 5) sc_parts_of.nd rfl (Or.inl rfl) (pe_op op_mod (pe_op op_mulX (pe_op op_fdivW (pv 0) (pv 3)) (pv 4)) (pe_op op_fdivW (pv 2) (pv 3))))
      (pss_cons (ps_if (pt_cmpR op_gt (pe_op op_mulX (pv 5) (pv 1)) (pv 0) (nomark _)) (pss_one (ps_ret pe_non)) pss_nil)
      (pss_one (ps_ret (pe_tup (pa_cons (pv 5) (pa_cons (pe_op op_fdivW (pe_op op_sub (pv 0) (pe_op op_mulX (pv 5) (pv 1))) (pv 2)) pa_nil))))))))), ?_⟩
    refine ⟨_, rfl, _, rfl, .mk ha hb fun g t p H1 G lg t0 t1 sm hp => ?_⟩
    refine ⟨p, _, rfl, sqT hp, rfl, _, _, rfl, _, _, rfl, rfl, ?_⟩
    have e := parts_good (s := sz) ha.pos hb.pos G
    have bg : Bn 2000 g := hb.bn.of_le (Int.le_of_lt G.pos) lg
    have bt : Bn 2000 t := hb.bn.of_le t0 (Int.le_of_lt t1)
    have hbg : 0 < b / g := by
      obtain ⟨c, ec⟩ := G.gb
      have := hb.pos
      have e2 : b / g = c := by rw [ec]; exact Int.mul_ediv_cancel_left c (Int.ne_of_gt G.pos)
      rw [e2]
      rcases Int.lt_or_le 0 c with h | h
      · exact h
      · have h3 : g * c ≤ g * 0 := Int.mul_le_mul_of_nonneg_left h (Int.le_of_lt G.pos)
        omega
    refine ⟨_, rfl, _, rfl, _, _, rfl, rfl, G.pos, rfl, _, rfl, iteNe (fun c1 => ?_) (fun c2 => ?_)⟩
    · have c1 : sz % g ≠ 0 := c1
      rw [if_pos c1] at e
      rw [e] at q
      exact q _ sm
    · have c1 : ¬ sz % g ≠ 0 := fun z => z c2
      rw [if_neg c1] at e
      have bf : Bn 2000 (sz / g * t % (b / g)) := (hb.bn.div G.pos).mod hbg
      refine ⟨_, rfl, _, rfl, _, _, rfl, rfl, bg.divOk G.pos (by decide) (by decide), _, rfl, _, _, rfl, rfl, (hs.bn.div G.pos).mulOk bt (by decide), _, rfl, _, rfl, _, _, rfl, rfl, bg.divOk G.pos (by decide) (by decide), _, _, rfl, rfl, hbg, ?_⟩
      refine ⟨_, rfl, _, rfl, _, _, rfl, rfl, bf.mulOk ha.bn (by decide), _, rfl, _, _, rfl, rfl, _, rfl, iteD (fun d => ?_) (fun d => ?_)⟩
      · rw [if_pos d] at e
        rw [e] at q
        exact q _ sm
      · rw [if_neg d] at e
        rw [e] at q
        refine ⟨_, rfl, _, rfl, _, rfl, _, rfl, _, _, rfl, rfl, bf.mulOk ha.bn (by decide), _, _, rfl, rfl, _, rfl, _, _, rfl, rfl, hb.bn.divOk hb.pos (by decide) (by decide), by show 2 ≤ sizeLine; decide, fun p' hp' => ?_⟩
        exact q p' _ (sm.trans (same_upd hp')) (sm.free hp') upd_same
end
end BF

/-! ### what bars, in plain words -/
namespace BF
open PySem L2
def strB (L W d : Int) : Bool := !decide (L % d = 0) && !decide (W % d = 0)
noncomputable def shoB (x f s : Int) : Bool := (parts x f s).isNone
/-- those of 0, 1 that are so -/
def two (a b : Bool) : List Int := (if a then [0] else []) ++ (if b then [1] else [])
def strL (L W f s : Int) : List Int := two (strB L W f) (strB L W s)
noncomputable def shoL (L W f s : Int) : List Int := two (shoB L f s) (shoB W f s)
/-- whether a side bars: 0, 1 of the brick, 2, 3 of the floor -/
noncomputable def barB (L W f s : Int) (k : Int) : Bool := if k < 2 then strB L W (if k = 0 then f else s) else shoB (if k = 2 then L else W) f s
end BF
namespace BF
theorem sho_no {x f s m n : Int} (hf : 0 < f) (hs : 0 < s) (h : Rep x f s m n) : shoB x f s = false := by
  have p := parts_is (s := x) hf hs
  unfold shoB
  cases e : parts x f s with
  | none =>
    rw [e] at p
    exact absurd h (p m n)
  | some y => rfl
theorem sho_yes {x f s : Int} (hs : 0 < s) (h : ∀ m n, ¬ Rep x f s m n) : shoB x f s = true := by
  have p := parts_eq (s := x) (a := f) (b := s) (x := none) hs h
  unfold shoB
  rw [p]
  rfl
end BF

/-! ### answers.py: what bars -/
namespace BF
open PySem PySem.Spec PyProof.Rows L2
inductive SpStriped : Sp where
  | mk {L W d : Int} {H : Hp} {Q : VK} {E : XK} (hd : 0 < d) (q : Q (.bl (strB L W d)) H) : SpStriped [.int L, .int W, .int d] H Q E
inductive SpBars : Sp where
  | mk {L W f s : Int} {H : Hp} {Q : VK} {E : XK} (hL : Sz L) (hW : Sz W) (hf : Sz f) (hs : Sz s)
      (q : ∀ p p1 p2 H', Same H H' → H' p = some (.tup [.ref p1, .ref p2]) → H' p1 = some (.lst ((strL L W f s).map V.int)) → H' p2 = some (.lst ((shoL L W f s).map V.int)) → Q (.ref p) H') : SpBars [.int L, .int W, .int f, .int s] H Q E
/-- what two tests have picked behind i turns -/
def twoN (a b : Bool) : Nat → List Int
  | 0 => []
  | 1 => if a then [0] else []
  | _ => two a b
section
variable {P : Program} {w : World} {K : PySem.W.Frag} {mg : Str → Option Value} {base : Heap}
theorem H_is_striped (p : Pl K mg "is_striped" s_is_striped) : Has P w K mg base CX0 1 "is_striped" ["length", "width", "side"] SpStriped := by
  refine p.mk0 sc_is_striped (fun _ _ _ _ _ _ us hl => match us, hl with | [_, _, _], _ => rfl) (fun vs H Q E h => ?_) (fun f cdv A outer s H vs Q E hr h => ?_)
  · cases h; rfl
  · obtain @⟨L, W, d, _, _, _, hd, q⟩ := h
    refine ⟨_, (pss_one (ps_ret (pe_and (pe_cmpR op_ne (pe_op op_mod (pv 0) (pv 2)) pe_int (nomark _)) (pe_one (pe_cmpR op_ne (pe_op op_mod (pv 1) (pv 2)) pe_int (nomark _)))))), ?_⟩
    unfold strB at q
    walk_at "rd"
    refine iteNe (fun c => ?_) (fun c => ?_)
    · rw [decide_eq_false c] at q
      walk_at "rd"
      have e : decide (V.int (W % d) = V.int 0) = decide (W % d = 0) := decide_eq_decide.mpr ⟨fun z => V.int.inj z, fun z => congrArg V.int z⟩
      rw [show (!decide (V.int (W % d) = V.int 0)) = (!false && !decide (W % d = 0)) by rw [e]; rfl]
      exact q
    · rw [decide_eq_true c] at q
      exact q
theorem H_what_bars (p : Pl K mg "what_bars" s_what_bars) (B : Bi mg) (h_is_striped : Has P w K mg base CX0 1 "is_striped" ["length", "width", "side"] SpStriped) (h_parts_of : Has P w K mg base CX0 2 "parts_of" ["size", "first", "second"] SpParts) :
    Has P w K mg base CX0 3 "what_bars" ["length", "width", "first", "second"] SpBars := by
  refine p.mk0 sc_what_bars (fun _ _ _ _ _ _ us hl => match us, hl with | [_, _, _, _], _ => rfl) (fun vs H Q E h => ?_) (fun f cdv A outer s H vs Q E hr h => ?_)
  · cases h; rfl
  · obtain @⟨L, W, fi, se, _, _, _, hL, hW, hf, hs, q⟩ := h
    refine ⟨_, (pss_cons (ps_setLc (i := 4) (own := [("which", 6), ("side", 7)]) (g := (gTup K 2 (gCons (gName 6) (gCons (gName 7) gNil)))) (by rfl) sc_what_bars.nd rfl rfl (sw_true rfl rfl rfl (by decide +kernel)) (pi_enumT (by rfl) B.enumerate (pa_cons (pe_tup (pa_cons (pv 2) (pa_cons (pv 3) pa_nil))) pa_nil)) (blkOk_by (own := [("which", 6), ("side", 7)]) (N := ["length", "width", "first", "second", "striped", "short", "which", "side"]) (sc := defScope s_what_bars) (by decide +kernel)) (fun _ _ _ _ _ => (pg_tup (by rfl) (pgs_cons (pg_name (i := 6) sc_what_bars.nd rfl (Or.inl rfl)) (pgs_cons (pg_name (i := 7) sc_what_bars.nd rfl (Or.inl rfl)) pgs_nil)))) (fun _ _ _ _ _ => pts_one (pt_val (pe_fn h_is_striped (hr.mono (by decide)) pass0 (pa_cons (pv 0) (pa_cons (pv 1) (pa_cons (pv 7) pa_nil)))))) (fun _ _ _ _ _ => (pv 6)))
      (pss_cons (ps_setLc (i := 5) (own := [("which", 6), ("side", 7)]) (g := (gTup K 2 (gCons (gName 6) (gCons (gName 7) gNil)))) (by rfl) sc_what_bars.nd rfl rfl (sw_true rfl rfl rfl (by decide +kernel)) (pi_enumT (by rfl) B.enumerate (pa_cons (pe_tup (pa_cons (pv 0) (pa_cons (pv 1) pa_nil))) pa_nil)) (blkOk_by (own := [("which", 6), ("side", 7)]) (N := ["length", "width", "first", "second", "striped", "short", "which", "side"]) (sc := defScope s_what_bars) (by decide +kernel)) (fun _ _ _ _ _ => (pg_tup (by rfl) (pgs_cons (pg_name (i := 6) sc_what_bars.nd rfl (Or.inl rfl)) (pgs_cons (pg_name (i := 7) sc_what_bars.nd rfl (Or.inl rfl)) pgs_nil)))) (fun _ _ _ _ _ => pts_one (pt_cmpR op_isN (pe_fn h_parts_of (hr.mono (by decide)) pass0 (pa_cons (pv 7) (pa_cons (pv 2) (pa_cons (pv 3) pa_nil)))) pe_non (nomark _))) (fun _ _ _ _ _ => (pv 6)))
      (pss_one (ps_ret (pe_tup (pa_cons (pv 4) (pa_cons (pv 5) pa_nil))))))), ?_⟩
    walk_at "rd"
    intro t1 ht1
    generalize hH1 : upd H t1 _ = H1
    obtain ⟨sm1, up1⟩ : Same H H1 ∧ H1 t1 = some (.tup [.int fi, .int se]) := newH hH1 ht1
    clear hH1
    refine ⟨t1, _, rfl, sqT up1, fun D1 hD1 => lc_enumT (K := K) (a := t1) (xs := [.int fi, .int se]) (fun i H' => Same H1 H' ∧ H' D1 = some (.lst ((twoN (strB L W fi) (strB L W se) i).map V.int))) ⟨same_upd hD1, upd_same⟩ (fun i H' _ ⟨sm, _⟩ => sqT (sm _ _ up1)) ?_ ?_⟩
    · rintro i x T H' hx ⟨sm, eD⟩ hT
      obtain ⟨d, rfl, hd⟩ : ∃ d : Int, x = .int d ∧ ((i = 0 ∧ d = fi) ∨ (i = 1 ∧ d = se)) := by
        match i, hx with
        | 0, e => cases e; exact ⟨_, rfl, .inl ⟨rfl, rfl⟩⟩
        | 1, e => cases e; exact ⟨_, rfl, .inr ⟨rfl, rfl⟩⟩
        | n + 2, e => cases e
      have hdp : 0 < d := by
        rcases hd with ⟨_, rfl⟩ | ⟨_, rfl⟩
        · exact hf.pos
        · exact hs.pos
      have eD2 := same_upd (o := .tup [.int (i : Nat), .int d]) hT _ _ eD
      refine ⟨T, _, rfl, sqT upd_same, rfl, ?_⟩
      have sm2 : Same H1 (upd H' T (.tup [.int (i : Nat), .int d])) := sm.trans (same_upd hT)
      generalize upd H' T (.tup [.int (i : Nat), .int d]) = H2 at eD2 sm2 ⊢
      walk_at "rd"
      refine .mk hdp ⟨_, rfl, iteB (fun c => ?_) (fun c => ?_)⟩
      · refine ⟨_, rfl, _, eD2, ?_, ?_, ?_⟩
        · rw [List.length_map]
          refine Nat.lt_of_le_of_lt (m := 2) ?_ (by decide)
          rcases hd with ⟨rfl, _⟩ | ⟨rfl, _⟩
          · exact Nat.zero_le _
          · show (if strB L W fi then [(0 : Int)] else []).length ≤ 2; split <;> decide
        · exact fun b o e => by rw [upd_ne (ne_of_none e hD1)]; exact sm2 b o e
        · rw [upd_same]
          rcases hd with ⟨rfl, rfl⟩ | ⟨rfl, rfl⟩
          · show some (HO.lst ([] ++ [V.int 0])) = some (HO.lst ((if strB L W d then [0] else []).map V.int))
            rw [c]
            rfl
          · show some (HO.lst ((if strB L W fi then [0] else []).map V.int ++ [V.int 1])) = some (HO.lst ((two (strB L W fi) (strB L W d)).map V.int))
            unfold two
            rw [c, List.map_append]
            rfl
      · refine ⟨sm2, ?_⟩
        rw [eD2]
        rcases hd with ⟨rfl, rfl⟩ | ⟨rfl, rfl⟩
        · show some (HO.lst []) = some (HO.lst ((if strB L W d then [0] else []).map V.int))
          rw [c]
          rfl
        · show some (HO.lst ((if strB L W fi then [0] else []).map V.int)) = some (HO.lst ((two (strB L W fi) (strB L W d)).map V.int))
          unfold two
          rw [c]
          simp
    · rintro H2 ⟨sm2, eD1⟩
      walk_at "rd"
      intro t2 ht2
      generalize hH3 : upd H2 t2 _ = H3
      obtain ⟨sm3, up3⟩ : Same H2 H3 ∧ H3 t2 = some (.tup [.int L, .int W]) := newH hH3 ht2
      clear hH3
      refine ⟨t2, _, rfl, sqT up3, fun D2 hD2 => lc_enumT (K := K) (a := t2) (xs := [.int L, .int W]) (fun i H' => Same H3 H' ∧ H' D2 = some (.lst ((twoN (shoB L fi se) (shoB W fi se) i).map V.int))) ⟨same_upd hD2, upd_same⟩ (fun i H' _ ⟨sm, _⟩ => sqT (sm _ _ up3)) ?_ ?_⟩
      · rintro i x T H' hx ⟨sm, eD⟩ hT
        obtain ⟨d, rfl, hd⟩ : ∃ d : Int, x = .int d ∧ ((i = 0 ∧ d = L) ∨ (i = 1 ∧ d = W)) := by
          match i, hx with
          | 0, e => cases e; exact ⟨_, rfl, .inl ⟨rfl, rfl⟩⟩
          | 1, e => cases e; exact ⟨_, rfl, .inr ⟨rfl, rfl⟩⟩
          | n + 2, e => cases e
        have hdp : Sz d := by
          rcases hd with ⟨_, rfl⟩ | ⟨_, rfl⟩
          · exact hL
          · exact hW
        have eD2 := same_upd (o := .tup [.int (i : Nat), .int d]) hT _ _ eD
        refine ⟨T, _, rfl, sqT upd_same, rfl, ?_⟩
        have sm4 : Same H3 (upd H' T (.tup [.int (i : Nat), .int d])) := sm.trans (same_upd hT)
        generalize upd H' T (.tup [.int (i : Nat), .int d]) = H4 at eD2 sm4 ⊢
        walk_at "rd"
        refine .mk hdp hf hs (tell_of fun v H5 sm5 tv => ?_)
        have ev : (decide (v = .non)) = shoB d fi se := by
          unfold shoB
          cases hp : parts d fi se with
          | none =>
            rw [hp] at tv
            obtain rfl : v = .non := tv
            rfl
          | some y =>
            rw [hp] at tv
            obtain ⟨p5, rfl, _⟩ := tv
            rfl
        refine ⟨rfl, _, rfl, ?_⟩
        rw [ev]
        replace eD2 := sm5 _ _ eD2
        replace sm4 := sm4.trans sm5
        refine iteB (fun c => ?_) (fun c => ?_)
        · refine ⟨_, rfl, _, eD2, ?_, ?_, ?_⟩
          · rw [List.length_map]
            refine Nat.lt_of_le_of_lt (m := 2) ?_ (by decide)
            rcases hd with ⟨rfl, _⟩ | ⟨rfl, _⟩
            · exact Nat.zero_le _
            · show (if shoB L fi se then [(0 : Int)] else []).length ≤ 2; split <;> decide
          · exact fun b o e => by rw [upd_ne (ne_of_none e hD2)]; exact sm4 b o e
          · rw [upd_same]
            rcases hd with ⟨rfl, rfl⟩ | ⟨rfl, rfl⟩
            · show some (HO.lst ([] ++ [V.int 0])) = some (HO.lst ((if shoB d fi se then [0] else []).map V.int))
              rw [c]
              rfl
            · show some (HO.lst ((if shoB L fi se then [0] else []).map V.int ++ [V.int 1])) = some (HO.lst ((two (shoB L fi se) (shoB d fi se)).map V.int))
              unfold two
              rw [c, List.map_append]
              rfl
        · refine ⟨sm4, ?_⟩
          rw [eD2]
          rcases hd with ⟨rfl, rfl⟩ | ⟨rfl, rfl⟩
          · show some (HO.lst []) = some (HO.lst ((if shoB d fi se then [0] else []).map V.int))
            rw [c]
            rfl
          · show some (HO.lst ((if shoB L fi se then [0] else []).map V.int)) = some (HO.lst ((two (shoB L fi se) (shoB d fi se)).map V.int))
            unfold two
            rw [c]
            simp
      · rintro H4 ⟨sm4, eD2⟩
        walk_at "rd"
        intro t3 ht3
        have e1 : H4 D1 = _ := sm4 _ _ (sm3 _ _ eD1)
        exact q t3 D1 D2 _ (sm1.trans (sm2.trans (sm3.trans (sm4.trans (same_upd ht3))))) upd_same (same_upd ht3 _ _ e1) (same_upd ht3 _ _ eD2)
end
end BF

/-! ### bricks and cells, in plain words -/
namespace BF
open PySem L2
structure Brick where
  x : Int
  y : Int
  l : Bool
def Brick.vs (b : Brick) : List V := [.int b.x, .int b.y, .bl b.l]
/-- along, up -/
def Brick.lo (f s : Int) (b : Brick) : Int := if b.l then f else s
def Brick.hi (f s : Int) (b : Brick) : Int := if b.l then s else f
def beyB (L W f s : Int) (b : Brick) : Bool := decide (b.x < 0) || (decide (b.y < 0) || (decide (L < b.x + b.lo f s) || decide (W < b.y + b.hi f s)))
def covB (f s : Int) (c : Int × Int) (b : Brick) : Bool := (decide (b.x ≤ c.1) && decide (c.1 < b.x + b.lo f s)) && (decide (b.y ≤ c.2) && decide (c.2 < b.y + b.hi f s))
def oftN (f s : Int) (bs : List Brick) (c : Int × Int) : Nat := (bs.filter (covB f s c)).length
def cellB (L W : Int) (c : Int × Int) : Bool := (decide (0 ≤ c.1) && decide (c.1 < L)) && (decide (0 ≤ c.2) && decide (c.2 < W))
/-- a column of cells, columns of cells -/
def colL (x y : Int) (n : Nat) : List (Int × Int) := (List.range n).map fun j : Nat => (x, y + (j : Int))
def colsL (x y : Int) (m n : Nat) : List (Int × Int) := (List.range m).flatMap fun i : Nat => colL (x + (i : Int)) y n
def cellsL (f s : Int) (b : Brick) : List (Int × Int) := colsL b.x b.y (b.lo f s).toNat (b.hi f s).toNat
theorem col_succ (x y : Int) (n : Nat) : colL x y (n + 1) = colL x y n ++ [(x, y + (n : Int))] := by
  unfold colL
  rw [List.range_succ, List.map_append]
  rfl
theorem col_len (x y : Int) (n : Nat) : (colL x y n).length = n := by
  unfold colL
  rw [List.length_map, List.length_range]
theorem cols_succ (x y : Int) (m n : Nat) : colsL x y (m + 1) n = colsL x y m n ++ colL (x + (m : Int)) y n := by
  unfold colsL
  rw [List.range_succ, List.flatMap_append]
  simp
theorem cols_len (x y : Int) (n : Nat) : ∀ m, (colsL x y m n).length = m * n
  | 0 => by simp [colsL]
  | m + 1 => by
    rw [cols_succ, List.length_append, cols_len x y n m, col_len, Nat.succ_mul]
theorem col_count (x y : Int) (c : Int × Int) : ∀ n : Nat, (colL x y n).count c = if c.1 = x ∧ y ≤ c.2 ∧ c.2 < y + (n : Int) then 1 else 0
  | 0 => by
    rw [if_neg (by omega)]
    rfl
  | n + 1 => by
    rw [col_succ, List.count_append, col_count x y c n]
    obtain ⟨a, b⟩ := c
    by_cases h : (a, b) = (x, y + (n : Int))
    · have h1 : a = x := congrArg Prod.fst h
      have h2 : b = y + (n : Int) := congrArg Prod.snd h
      rw [h, List.count_singleton_self]
      show (if x = x ∧ y ≤ y + (n : Int) ∧ y + (n : Int) < y + (n : Int) then 1 else 0) + 1 = if x = x ∧ y ≤ y + (n : Int) ∧ y + (n : Int) < y + ((n + 1 : Nat) : Int) then 1 else 0
      rw [if_neg (show ¬ (x = x ∧ y ≤ y + (n : Int) ∧ y + (n : Int) < y + (n : Int)) by omega), if_pos (show x = x ∧ y ≤ y + (n : Int) ∧ y + (n : Int) < y + ((n + 1 : Nat) : Int) by omega)]
    · have e : [(x, y + (n : Int))].count (a, b) = 0 := List.count_eq_zero_of_not_mem (by
        intro z
        exact h (List.mem_singleton.mp z))
      rw [e]
      have ne : ¬ (a = x ∧ b = y + (n : Int)) := fun z => h (by rw [z.1, z.2])
      simp only
      by_cases g : a = x ∧ y ≤ b ∧ b < y + (n : Int)
      · rw [if_pos g, if_pos (by omega)]
      · rw [if_neg g, if_neg (by omega)]
theorem cols_count (x y : Int) (n : Nat) (c : Int × Int) : ∀ m : Nat, (colsL x y m n).count c = if (x ≤ c.1 ∧ c.1 < x + (m : Int)) ∧ y ≤ c.2 ∧ c.2 < y + (n : Int) then 1 else 0
  | 0 => by
    rw [if_neg (by omega)]
    rfl
  | m + 1 => by
    rw [cols_succ, List.count_append, cols_count x y n c m, col_count]
    by_cases h : c.1 = x + (m : Int)
    · rw [if_neg (by omega)]
      by_cases g : y ≤ c.2 ∧ c.2 < y + (n : Int)
      · rw [if_pos (by omega), if_pos (by omega)]
      · rw [if_neg (by omega), if_neg (by omega)]
    · rw [if_neg (c := c.1 = x + (m : Int) ∧ y ≤ c.2 ∧ c.2 < y + (n : Int)) (by omega)]
      by_cases g : (x ≤ c.1 ∧ c.1 < x + (m : Int)) ∧ y ≤ c.2 ∧ c.2 < y + (n : Int)
      · rw [if_pos g, if_pos (by omega)]
      · rw [if_neg g, if_neg (by omega)]
theorem cells_count {f s : Int} (hf : 0 < f) (hs : 0 < s) (b : Brick) (c : Int × Int) : (cellsL f s b).count c = if covB f s c b then 1 else 0 := by
  unfold cellsL
  rw [cols_count]
  have h1 : 0 < b.lo f s := by unfold Brick.lo; split <;> omega
  have h2 : 0 < b.hi f s := by unfold Brick.hi; split <;> omega
  have e1 : ((b.lo f s).toNat : Int) = b.lo f s := Int.toNat_of_nonneg (by omega)
  have e2 : ((b.hi f s).toNat : Int) = b.hi f s := Int.toNat_of_nonneg (by omega)
  rw [e1, e2]
  unfold covB
  by_cases g : (b.x ≤ c.1 ∧ c.1 < b.x + b.lo f s) ∧ b.y ≤ c.2 ∧ c.2 < b.y + b.hi f s
  · rw [if_pos g, decide_eq_true g.1.1, decide_eq_true g.1.2, decide_eq_true g.2.1, decide_eq_true g.2.2]
    rfl
  · rw [if_neg g]
    have e : ((decide (b.x ≤ c.1) && decide (c.1 < b.x + b.lo f s)) && (decide (b.y ≤ c.2) && decide (c.2 < b.y + b.hi f s))) = false := by
      apply Bool.eq_false_iff.mpr
      intro z
      simp only [Bool.and_eq_true, decide_eq_true_eq] at z
      exact g ⟨⟨z.1.1, z.1.2⟩, z.2.1, z.2.2⟩
    rw [e]
    rfl
/-- all cells of all bricks -/
def allL (f s : Int) (bs : List Brick) : List (Int × Int) := bs.flatMap (cellsL f s)
theorem all_count {f s : Int} (hf : 0 < f) (hs : 0 < s) (c : Int × Int) : ∀ bs : List Brick, (allL f s bs).count c = oftN f s bs c
  | [] => rfl
  | b :: bs => by
    have ih := all_count hf hs c bs
    unfold allL at ih ⊢
    rw [List.flatMap_cons, List.count_append, ih, cells_count hf hs]
    unfold oftN
    rw [List.filter_cons]
    split <;> simp <;> omega
/-- the floor's cells -/
def gridL (L W : Int) : List (Int × Int) := colsL 0 0 L.toNat W.toNat
theorem grid_count {L W : Int} (hL : 0 ≤ L) (hW : 0 ≤ W) (c : Int × Int) : (gridL L W).count c = if cellB L W c then 1 else 0 := by
  unfold gridL
  rw [cols_count, Int.toNat_of_nonneg hL, Int.toNat_of_nonneg hW]
  unfold cellB
  by_cases g : (0 ≤ c.1 ∧ c.1 < 0 + L) ∧ 0 ≤ c.2 ∧ c.2 < 0 + W
  · rw [if_pos g, decide_eq_true g.1.1, decide_eq_true (show c.1 < L by omega), decide_eq_true g.2.1, decide_eq_true (show c.2 < W by omega)]
    rfl
  · rw [if_neg g]
    have e : ((decide (0 ≤ c.1) && decide (c.1 < L)) && (decide (0 ≤ c.2) && decide (c.2 < W))) = false := by
      apply Bool.eq_false_iff.mpr
      intro z
      simp only [Bool.and_eq_true, decide_eq_true_eq] at z
      omega
    rw [e]
    rfl
/-- a sum of counts over a list without doubles -/
theorem sum_counts {all : List (Int × Int)} : ∀ {g : List (Int × Int)}, (∀ c, g.count c ≤ 1) → (∀ c ∈ all, c ∈ g) → (g.map fun c => all.count c).sum = all.length := by
  induction all with
  | nil =>
    intro g k1 k2
    clear k1 k2
    show (g.map fun c => ([] : List (Int × Int)).count c).sum = 0
    induction g with
    | nil => rfl
    | cons a g ih =>
      rw [List.map_cons, List.sum_cons, ih]
      rfl
  | cons x all ih =>
    intro g h1 h2
    have hx : g.count x = 1 := by
      have := h1 x
      have := List.count_pos_iff.mpr (h2 x (by simp))
      omega
    have e : ∀ g : List (Int × Int), (g.map fun c => (x :: all).count c).sum = (g.map fun c => all.count c).sum + g.count x := by
      intro g
      induction g with
      | nil => rfl
      | cons a g ihg =>
        rw [List.map_cons, List.sum_cons, ihg, List.map_cons, List.sum_cons, List.count_cons, List.count_cons]
        by_cases z : a = x
        · subst z; simp; omega
        · have z1 : (x == a) = false := by simpa using fun h => z h.symm
          have z2 : (a == x) = false := by simpa using z
          rw [z1, z2]; simp; omega
    rw [e, ih h1 (fun c hc => h2 c (List.mem_cons_of_mem _ hc)), hx, List.length_cons]
theorem sum_ones {h : Int × Int → Nat} : ∀ {g : List (Int × Int)}, (∀ c ∈ g, h c ≤ 1) → (g.map h).sum = g.length → ∀ c ∈ g, h c = 1
  | [], _, _, c, hc => by cases hc
  | a :: g, h1, e, c, hc => by
    have le : ∀ g : List (Int × Int), (∀ c ∈ g, h c ≤ 1) → (g.map h).sum ≤ g.length := by
      intro g hg
      induction g with
      | nil => exact Nat.le_refl _
      | cons b g ih =>
        rw [List.map_cons, List.sum_cons, List.length_cons]
        have := hg b (by simp)
        have := ih fun c hc => hg c (List.mem_cons_of_mem _ hc)
        omega
    rw [List.map_cons, List.sum_cons, List.length_cons] at e
    have a1 := h1 a (by simp)
    have g1 := le g fun c hc => h1 c (List.mem_cons_of_mem _ hc)
    rcases List.mem_cons.mp hc with rfl | hc
    · omega
    · exact sum_ones (fun c hc => h1 c (List.mem_cons_of_mem _ hc)) (by omega) c hc
theorem all_ones {h : Int × Int → Nat} : ∀ {g : List (Int × Int)}, (∀ c ∈ g, h c = 1) → (g.map h).sum = g.length
  | [], _ => rfl
  | a :: g, e => by
    rw [List.map_cons, List.sum_cons, List.length_cons, e a (by simp), all_ones fun c hc => e c (List.mem_cons_of_mem _ hc)]
    omega
theorem cov_cell {L W f s : Int} {b : Brick} {c : Int × Int} (h : beyB L W f s b = false) (g : covB f s c b = true) : cellB L W c = true := by
  unfold beyB at h
  unfold covB at g
  unfold cellB
  simp only [Bool.or_eq_false_iff, decide_eq_false_iff_not] at h
  simp only [Bool.and_eq_true, decide_eq_true_eq] at g ⊢
  omega
theorem mem_cells {f s : Int} (hf : 0 < f) (hs : 0 < s) {b : Brick} {c : Int × Int} (h : c ∈ cellsL f s b) : covB f s c b = true := by
  have := List.count_pos_iff.mpr h
  rw [cells_count hf hs] at this
  by_cases g : covB f s c b = true
  · exact g
  · rw [if_neg g] at this; omega
theorem mem_grid {L W : Int} (hL : 0 ≤ L) (hW : 0 ≤ W) {c : Int × Int} : c ∈ gridL L W ↔ cellB L W c = true := by
  constructor
  · intro h
    have := List.count_pos_iff.mpr h
    rw [grid_count hL hW] at this
    by_cases g : cellB L W c = true
    · exact g
    · rw [if_neg g] at this; omega
  · intro h
    refine List.count_pos_iff.mp ?_
    rw [grid_count hL hW, if_pos h]
    omega
/-- laid: as the program reckons it, and cell by cell -/
theorem full_iff {L W f s : Int} (hL : 0 < L) (hW : 0 < W) (hf : 0 < f) (hs : 0 < s) {bs : List Brick} (hb : ∀ b ∈ bs, beyB L W f s b = false) :
    ((allL f s bs).Nodup ∧ ((allL f s bs).length : Int) = L * W) ↔ ∀ c, cellB L W c = true → oftN f s bs c = 1 := by
  have sub : ∀ c ∈ allL f s bs, c ∈ gridL L W := by
    intro c hc
    obtain ⟨b, hbm, hcb⟩ := List.mem_flatMap.mp hc
    exact (mem_grid (by omega) (by omega)).mpr (cov_cell (hb b hbm) (mem_cells hf hs hcb))
  have g1 : ∀ c, (gridL L W).count c ≤ 1 := fun c => by
    rw [grid_count (by omega) (by omega)]
    split <;> omega
  have gl : ((gridL L W).length : Int) = L * W := by
    unfold gridL
    rw [cols_len, Int.natCast_mul, Int.toNat_of_nonneg (by omega), Int.toNat_of_nonneg (by omega)]
  have sm := sum_counts g1 sub
  constructor
  · rintro ⟨nd, len⟩ c hc
    have e : ((gridL L W).map fun c => (allL f s bs).count c).sum = (gridL L W).length := by omega
    have := sum_ones (h := fun c => (allL f s bs).count c) (fun c _ => List.nodup_iff_count.mp nd c) e c ((mem_grid (by omega) (by omega)).mpr hc)
    rw [← all_count hf hs]
    exact this
  · intro h
    have e := all_ones (h := fun c => (allL f s bs).count c) (g := gridL L W) fun c hc => by
      show (allL f s bs).count c = 1
      rw [all_count hf hs]
      exact h c ((mem_grid (by omega) (by omega)).mp hc)
    refine ⟨List.nodup_iff_count.mpr fun c => ?_, by omega⟩
    by_cases hc : c ∈ allL f s bs
    · rw [all_count hf hs, h c ((mem_grid (by omega) (by omega)).mp (sub c hc))]
      exact Nat.le_refl _
    · rw [List.count_eq_zero_of_not_mem hc]
      omega
end BF

/-! ### answers.py: bricks and cells -/
namespace BF
open PySem PySem.Spec PyProof.Rows L2
def cellV (c : Int × Int) : List V := [.int c.1, .int c.2]
/-- a brick's tuple, a list of bricks -/
def BrAll (K : PySem.W.Frag) (H : Hp) (ps : List (Addr × Brick)) : Prop := ∀ p ∈ ps, SqT K H p.1 p.2.vs
def refs {α : Type} (ps : List (Addr × α)) : List V := ps.map fun p => V.ref p.1
def vals {α : Type} (ps : List (Addr × α)) : List α := ps.map (·.2)
theorem BrAll.mono {K : PySem.W.Frag} {H H' : Hp} {ps : List (Addr × Brick)} (h : BrAll K H ps) (sm : Same H H') : BrAll K H' ps := fun p hp => Same.tup sm (h p hp)
theorem refs_at {α : Type} {ps : List (Addr × α)} {i : Nat} {v : V} (h : (refs ps)[i]? = some v) : ∃ p, ps[i]? = some p ∧ v = .ref p.1 ∧ p ∈ ps := by
  unfold refs at h
  rw [List.getElem?_map] at h
  cases e : ps[i]? with
  | none => rw [e] at h; cases h
  | some p =>
    rw [e] at h
    exact ⟨p, rfl, (Option.some.inj h).symm, List.mem_of_getElem? e⟩
theorem refs_len {α : Type} (ps : List (Addr × α)) : (refs ps).length = ps.length := List.length_map _
theorem vals_len {α : Type} (ps : List (Addr × α)) : (vals ps).length = ps.length := List.length_map _
inductive SpBeyond (K : PySem.W.Frag) : Sp where
  | mk {o : Addr} {b : Brick} {L W f s : Int} {H : Hp} {Q : VK} {E : XK} (ho : SqT K H o b.vs) (q : ∀ H', Same H H' → Q (.bl (beyB L W f s b)) H') : SpBeyond K [.int L, .int W, .int f, .int s, .ref o] H Q E
inductive SpCovers (K : PySem.W.Frag) : Sp where
  | mk {o t : Addr} {b : Brick} {c : Int × Int} {f s : Int} {H : Hp} {Q : VK} {E : XK} (ho : SqT K H o b.vs) (ht : SqT K H t (cellV c)) (q : ∀ H', Same H H' → Q (.bl (covB f s c b)) H') : SpCovers K [.int f, .int s, .ref o, .ref t] H Q E
inductive SpOften (K : PySem.W.Frag) : Sp where
  | mk {l t : Addr} {ps : List (Addr × Brick)} {c : Int × Int} {f s : Int} {H : Hp} {Q : VK} {E : XK} (hl : SqL K H l (refs ps)) (hb : BrAll K H ps) (hn : ps.length ≤ 10000) (ht : SqT K H t (cellV c)) (q : ∀ H', Same H H' → Q (.int (oftN f s (vals ps) c : Nat)) H') :
    SpOften K [.int f, .int s, .ref l, .ref t] H Q E
section
variable {P : Program} {w : World} {K : PySem.W.Frag} {mg : Str → Option Value} {base : Heap}
theorem H_is_beyond (p : Pl K mg "is_beyond" s_is_beyond) : Has P w K mg base CX0 1 "is_beyond" ["length", "width", "first", "second", "brick"] (SpBeyond K) := by
  refine p.mk0 sc_is_beyond (fun _ _ _ _ _ _ us hl => match us, hl with | [_, _, _, _, _], _ => rfl) (fun vs H Q E h => ?_) (fun f cdv A outer s H vs Q E hr h => ?_)
  · cases h; rfl
  · obtain @⟨o, ⟨x, y, l⟩, L, W, fi, se, _, _, _, ho, q⟩ := h
    refine ⟨_, (pss_cons (ps_asg (pe_ifExp (pt_val (pe_ix (r := rIxT K) ix_tup (pv 4) pe_int (fun _ _ => rfl))) (pe_tup (pa_cons (pv 2) (pa_cons (pv 3) pa_nil))) (pe_tup (pa_cons (pv 3) (pa_cons (pv 2) pa_nil)))) (pg_tup (by rfl) (pgs_cons (pg_name (i := 5) sc_is_beyond.nd rfl (Or.inl rfl)) (pgs_cons (pg_name (i := 6) sc_is_beyond.nd rfl (Or.inl rfl)) pgs_nil))))
      (pss_one (ps_ret (pe_or (pe_cmpR op_lt (pe_ix (r := rIxT K) ix_tup (pv 4) pe_int (fun _ _ => rfl)) pe_int (nomark _)) (pe_or (pe_cmpR op_lt (pe_ix (r := rIxT K) ix_tup (pv 4) pe_int (fun _ _ => rfl)) pe_int (nomark _)) (pe_or (pe_cmpR op_gt (pe_op op_add (pe_ix (r := rIxT K) ix_tup (pv 4) pe_int (fun _ _ => rfl)) (pv 5)) (pv 0) (nomark _)) (pe_one (pe_cmpR op_gt (pe_op op_add (pe_ix (r := rIxT K) ix_tup (pv 4) pe_int (fun _ _ => rfl)) (pv 6)) (pv 1) (nomark _))))))))), ?_⟩
    unfold beyB Brick.lo Brick.hi at q
    cases l
    all_goals
      simp only [Bool.false_eq_true, if_false, if_true] at q
      refine ⟨_, rfl, o, _, 2, _, rfl, rfl, ho, rfl, _, rfl, ?_⟩
      first | refine iteF ?_ | refine iteT ?_
      walk_at "rd"
      intro t ht
      generalize hH1 : upd H t _ = H1
      obtain ⟨sm1, up1⟩ := newH hH1 ht
      clear hH1
      have ho1 := Same.tup sm1 ho
      refine ⟨t, _, rfl, sqT up1, rfl, ?_⟩
      walk_at "rd"
      refine ⟨o, _, 0, _, rfl, rfl, ho1, rfl, _, _, rfl, rfl, _, rfl, iteD (fun c => ?_) (fun c => ?_)⟩
      · have c : x < 0 := c
        simp only [decide_eq_true c, Bool.true_or] at q
        exact q _ sm1
      have c : ¬ x < 0 := c
      simp only [decide_eq_false c, Bool.false_or] at q
      refine ⟨_, rfl, o, _, 1, _, rfl, rfl, ho1, rfl, _, _, rfl, rfl, _, rfl, iteD (fun c => ?_) (fun c => ?_)⟩
      · have c : y < 0 := c
        simp only [decide_eq_true c, Bool.true_or] at q
        exact q _ sm1
      have c : ¬ y < 0 := c
      simp only [decide_eq_false c, Bool.false_or] at q
      refine ⟨_, rfl, o, _, 0, _, rfl, rfl, ho1, rfl, ?_⟩
      walk_at "rd"
      refine iteD (fun c => ?_) (fun c => ?_)
      · simp only [decide_eq_true c, Bool.true_or] at q
        exact q _ sm1
      simp only [decide_eq_false c, Bool.false_or] at q
      refine ⟨_, rfl, o, _, 1, _, rfl, rfl, ho1, rfl, ?_⟩
      walk_at "rd"
      exact q _ sm1
theorem H_covers (p : Pl K mg "covers" s_covers) : Has P w K mg base CX0 1 "covers" ["first", "second", "brick", "cell"] (SpCovers K) := by
  refine p.mk0 sc_covers (fun _ _ _ _ _ _ us hl => match us, hl with | [_, _, _, _], _ => rfl) (fun vs H Q E h => ?_) (fun f cdv A outer s H vs Q E hr h => ?_)
  · cases h; rfl
  · obtain @⟨o, t, ⟨x, y, l⟩, ⟨c1, c2⟩, fi, se, _, _, _, ho, ht, q⟩ := h
    refine ⟨_, (pss_cons (ps_asg (pe_ifExp (pt_val (pe_ix (r := rIxT K) ix_tup (pv 2) pe_int (fun _ _ => rfl))) (pe_tup (pa_cons (pv 0) (pa_cons (pv 1) pa_nil))) (pe_tup (pa_cons (pv 1) (pa_cons (pv 0) pa_nil)))) (pg_tup (by rfl) (pgs_cons (pg_name (i := 4) sc_covers.nd rfl (Or.inl rfl)) (pgs_cons (pg_name (i := 5) sc_covers.nd rfl (Or.inl rfl)) pgs_nil))))
      (pss_one (ps_ret (pe_and (pe_chain op_le op_lt (pe_ix (r := rIxT K) ix_tup (pv 2) pe_int (fun _ _ => rfl)) (pe_ix (r := rIxT K) ix_tup (pv 3) pe_int (fun _ _ => rfl)) (pe_op op_add (pe_ix (r := rIxT K) ix_tup (pv 2) pe_int (fun _ _ => rfl)) (pv 4))) (pe_one (pe_chain op_le op_lt (pe_ix (r := rIxT K) ix_tup (pv 2) pe_int (fun _ _ => rfl)) (pe_ix (r := rIxT K) ix_tup (pv 3) pe_int (fun _ _ => rfl)) (pe_op op_add (pe_ix (r := rIxT K) ix_tup (pv 2) pe_int (fun _ _ => rfl)) (pv 5)))))))), ?_⟩
    unfold covB Brick.lo Brick.hi at q
    cases l
    all_goals
      simp only [Bool.false_eq_true, if_false, if_true] at q
      refine ⟨_, rfl, o, _, 2, _, rfl, rfl, ho, rfl, _, rfl, ?_⟩
      first | refine iteF ?_ | refine iteT ?_
      walk_at "rd"
      intro p1 hp1
      generalize hH1 : upd H p1 _ = H1
      obtain ⟨sm1, up1⟩ := newH hH1 hp1
      clear hH1
      have ho1 := Same.tup sm1 ho
      have ht1 := Same.tup sm1 ht
      refine ⟨p1, _, rfl, sqT up1, rfl, ?_⟩
      walk_at "rd"
      refine ⟨o, _, 0, _, rfl, rfl, ho1, rfl, _, rfl, t, _, 0, _, rfl, rfl, ht1, rfl, ?_⟩
      walk_at "rd"
      refine iteD (fun c => ?_) (fun c => ?_)
      · simp only [decide_eq_true c, Bool.true_and] at q
        refine ⟨_, rfl, o, _, 0, _, rfl, rfl, ho1, rfl, ?_⟩
        walk_at "rd"
        refine iteD (fun c => ?_) (fun c => ?_)
        · simp only [decide_eq_true c, Bool.true_and] at q
          refine ⟨_, rfl, o, _, 1, _, rfl, rfl, ho1, rfl, _, rfl, t, _, 1, _, rfl, rfl, ht1, rfl, ?_⟩
          walk_at "rd"
          refine iteD (fun c => ?_) (fun c => ?_)
          · simp only [decide_eq_true c, Bool.true_and] at q
            refine ⟨_, rfl, o, _, 1, _, rfl, rfl, ho1, rfl, ?_⟩
            walk_at "rd"
            exact q _ sm1
          · simp only [decide_eq_false c, Bool.false_and] at q
            exact q _ sm1
        · simp only [decide_eq_false c, Bool.false_and] at q
          exact q _ sm1
      · simp only [decide_eq_false c, Bool.false_and] at q
        exact ⟨_, rfl, iteF (q _ sm1)⟩
theorem H_often (p : Pl K mg "often" s_often) (B : Bi mg) (h_covers : Has P w K mg base CX0 1 "covers" ["first", "second", "brick", "cell"] (SpCovers K)) : Has P w K mg base CX0 2 "often" ["first", "second", "bricks", "cell"] (SpOften K) := by
  refine p.mk0 sc_often (fun _ _ _ _ _ _ us hl => match us, hl with | [_, _, _, _], _ => rfl) (fun vs H Q E h => ?_) (fun f cdv A outer s H vs Q E hr h => ?_)
  · cases h; rfl
  · obtain @⟨l, t, ps, c, fi, se, _, _, _, hl, hb, hn, ht, q⟩ := h
    refine ⟨_, (pss_one (ps_ret (pe_callB (r := rLen2 K) call_len_seq (by rfl) B.len PySem.boot_len (pa_cons (pe_lc (own := [("brick", 4)]) (by rfl) sc_often.nd (pi_list (pv 2)) (blkOk_by (own := [("brick", 4)]) (N := ["first", "second", "bricks", "cell", "brick"]) (sc := defScope s_often) (by decide +kernel)) (fun _ _ _ _ _ => (pg_name (i := 4) sc_often.nd rfl (Or.inl rfl))) (fun _ _ _ _ _ => pts_one (pt_val (pe_fn h_covers (hr.mono (by decide)) pass0 (pa_cons (pv 0) (pa_cons (pv 1) (pa_cons (pv 4) (pa_cons (pv 3) pa_nil))))))) (fun _ _ _ _ _ => (pv 4))) pa_nil)))), ?_⟩
    refine ⟨_, rfl, l, rfl, ⟨_, hl⟩, fun D hD => ?_⟩
    refine lc_list (K := K) (a := l) (xs := refs ps) (fun i H' => Same H H' ∧ ∃ vs, H' D = some (.lst vs) ∧ vs.length = oftN fi se ((vals ps).take i) c) ⟨same_upd hD, [], upd_same, rfl⟩ (fun i H' _ ⟨sm, _⟩ => sm.seq hl) ?_ ?_
    · rintro i v H' hi ⟨sm, vs, eD, ev⟩
      obtain ⟨pb, hpb, rfl, hm⟩ := refs_at hi
      have hlt : i < ps.length := (List.getElem?_eq_some_iff.mp hpb).1
      have et : (vals ps).take (i + 1) = (vals ps).take i ++ [pb.2] := by
        unfold vals
        rw [List.take_add_one, List.getElem?_map, hpb]
        rfl
      have eo : oftN fi se ((vals ps).take (i + 1)) c = oftN fi se ((vals ps).take i) c + if covB fi se c pb.2 then 1 else 0 := by
        rw [et]
        unfold oftN
        rw [List.filter_append, List.length_append, List.filter_cons]
        split <;> rfl
      have hle : oftN fi se ((vals ps).take i) c ≤ ps.length := by
        unfold oftN
        refine Nat.le_trans (List.length_filter_le _ _) ?_
        rw [List.length_take, vals_len]
        exact Nat.min_le_right _ _
      refine ⟨rfl, ?_⟩
      walk_at "rd"
      refine .mk (Same.tup sm (hb pb hm)) (Same.tup sm ht) fun H2 sm2 => ⟨_, rfl, iteB (fun c => ?_) (fun c => ?_)⟩
      · rw [c, if_pos rfl] at eo
        refine ⟨_, rfl, vs, sm2 _ _ eD, ?_, ?_, vs ++ [.ref pb.1], upd_same, ?_⟩
        · rw [ev]
          exact Nat.lt_of_le_of_lt hle (Nat.lt_of_le_of_lt hn (by decide))
        · exact fun b1 o e => by rw [upd_ne (ne_of_none e hD)]; exact sm2 _ _ (sm b1 o e)
        · rw [List.length_append, ev, eo]
          rfl
      · rw [c] at eo
        exact ⟨sm.trans sm2, vs, sm2 _ _ eD, by rw [ev, eo]; rfl⟩
    · rintro H' ⟨sm, vs, eD, ev⟩
      rw [refs_len, ← vals_len ps, List.take_length] at ev
      refine ⟨D, vs, rfl, .inl (sqL eD), ?_⟩
      rw [ev]
      exact q _ sm
end
end BF

/-! ### answers.py: the cells of a brick; what are cells -/
namespace BF
open PySem PySem.Spec PyProof.Rows L2
def CeAll (H : Hp) (cs : List (Addr × (Int × Int))) : Prop := ∀ q ∈ cs, H q.1 = some (.tup (cellV q.2))
theorem CeAll.mono {H H' : Hp} {cs : List (Addr × (Int × Int))} (h : CeAll H cs) (sm : Same H H') : CeAll H' cs := fun q hq => sm _ _ (h q hq)
inductive SpCells (K : PySem.W.Frag) : Sp where
  | mk {o : Addr} {b : Brick} {f s : Int} {H : Hp} {Q : VK} {E : XK} (ho : SqT K H o b.vs) (h1 : 0 ≤ b.lo f s ∧ b.lo f s ≤ 1000) (h2 : 0 ≤ b.hi f s ∧ b.hi f s ≤ 1000)
      (q : ∀ p H' cs, Same H H' → H' p = some (.lst (refs cs)) → CeAll H' cs → vals cs = cellsL f s b → Q (.ref p) H') : SpCells K [.int f, .int s, .ref o] H Q E
inductive SpIsCell : Sp where
  | mk {t : Addr} {c : Int × Int} {L W : Int} {H : Hp} {Q : VK} {E : XK} (ht : H t = some (.tup (cellV c))) (q : Q (.bl (cellB L W c)) H) : SpIsCell [.int L, .int W, .ref t] H Q E
inductive CellsI (fi se : Int) (o F : Addr) (lo hi x y : Int) (H : Hp) (i : Nat) : L2.St → Hp → Prop where
  | mk {H' : Hp} {z u : Option V} {cs : List (Addr × (Int × Int))} (sm : Same H H') (hF : H' F = some (.lst (refs cs))) (hc : CeAll H' cs) (hv : vals cs = colsL x y i hi.toNat) : CellsI fi se o F lo hi x y H i [some (.int fi), some (.int se), some (.ref o), some (.int lo), some (.int hi), some (.ref F), z, u] H'
theorem ce_add {H : Hp} {cs : List (Addr × (Int × Int))} {p : Addr} {c : Int × Int} (h : CeAll H cs) (hp : H p = some (.tup (cellV c))) : CeAll H (cs ++ [(p, c)]) := fun q hq => by
  rcases List.mem_append.mp hq with a | a
  · exact h q a
  · obtain rfl := List.mem_singleton.mp a
    exact hp
theorem mul_add_le {i n : Nat} (h1 : i < 1000) (h2 : n ≤ 1000) : i * n + n ≤ 1000000 := by
  have := Nat.mul_le_mul (show i + 1 ≤ 1000 by omega) h2
  rw [Nat.succ_mul] at this
  exact this
theorem refs_app {α : Type} (a b : List (Addr × α)) : refs (a ++ b) = refs a ++ refs b := List.map_append
theorem vals_app {α : Type} (a b : List (Addr × α)) : vals (a ++ b) = vals a ++ vals b := List.map_append
section
variable {P : Program} {w : World} {K : PySem.W.Frag} {mg : Str → Option Value} {base : Heap}
theorem H_is_cell (p : Pl K mg "is_cell" s_is_cell) (B : Bi mg) (h_is_number : Has P w K mg base CX0 1 "is_number" ["thing"] (SpIsNumber K)) : Has P w K mg base CX0 2 "is_cell" ["length", "width", "thing"] SpIsCell := by
  refine p.mk0 sc_is_cell (fun _ _ _ _ _ _ us hl => match us, hl with | [_, _, _], _ => rfl) (fun vs H Q E h => ?_) (fun f cdv A outer s H vs Q E hr h => ?_)
  · cases h; rfl
  · obtain @⟨t, ⟨c1, c2⟩, L, W, _, _, _, ht, q⟩ := h
    refine ⟨_, (pss_cons (ps_if (PW.pt (pw_or (pt_not (pt_val (pe_callB (r := rIsi K) call_isi (by rfl) B.isinstance (by decide +kernel) (pa_cons (pv 2) (pa_cons (pe_bltn (v := .ty "tuple") (by rfl) B.tuple (by decide +kernel) rfl) pa_nil))))) (pw_or (pt_cmpR op_ne (pe_callB (r := rLen2 K) call_len_seq (by rfl) B.len PySem.boot_len (pa_cons (pv 2) pa_nil)) pe_int (nomark _)) (pw_or (pt_not (pt_val (pe_fn h_is_number (hr.mono (by decide)) pass0 (pa_cons (pe_ix (r := rIxT K) ix_tup (pv 2) pe_int (fun _ _ => rfl)) pa_nil)))) (pw_or1 (pt_not (pt_val (pe_fn h_is_number (hr.mono (by decide)) pass0 (pa_cons (pe_ix (r := rIxT K) ix_tup (pv 2) pe_int (fun _ _ => rfl)) pa_nil))))))))) (pss_one (ps_ret pe_bl)) pss_nil)
      (pss_one (ps_ret (pe_and (pe_chain op_le op_lt pe_int (pe_ix (r := rIxT K) ix_tup (pv 2) pe_int (fun _ _ => rfl)) (pv 0)) (pe_one (pe_chain op_le op_lt pe_int (pe_ix (r := rIxT K) ix_tup (pv 2) pe_int (fun _ _ => rfl)) (pv 1))))))), ?_⟩
    unfold cellB at q
    refine ⟨_, rfl, _, _, _, _, true, rfl, .ty "tuple", .base (.tup ht), kit_ty (by decide +kernel), true, rfl, iteF ?_⟩
    refine ⟨_, rfl, t, _, rfl, .inr (sqT ht), rfl, _, rfl, iteNe (fun z => absurd rfl z) (fun _ => ?_)⟩
    refine ⟨_, rfl, t, _, 0, _, rfl, rfl, sqT ht, rfl, num_int ⟨true, rfl, iteF ?_⟩⟩
    refine ⟨_, rfl, t, _, 1, _, rfl, rfl, sqT ht, rfl, num_int ⟨true, rfl, iteF ?_⟩⟩
    refine ⟨_, rfl, t, _, 0, _, rfl, rfl, sqT ht, rfl, ?_⟩
    walk_at "rd"
    refine iteD (fun c => ?_) (fun c => ?_)
    · simp only [decide_eq_true c, Bool.true_and] at q
      walk_at "rd"
      refine iteD (fun c => ?_) (fun c => ?_)
      · simp only [decide_eq_true c, Bool.true_and] at q
        refine ⟨_, rfl, t, _, 1, _, rfl, rfl, sqT ht, rfl, ?_⟩
        walk_at "rd"
        refine iteD (fun c => ?_) (fun c => ?_)
        · simp only [decide_eq_true c, Bool.true_and] at q
          walk_at "rd"
          exact q
        · simp only [decide_eq_false c, Bool.false_and] at q
          exact q
      · simp only [decide_eq_false c, Bool.false_and] at q
        exact q
    · simp only [decide_eq_false c, Bool.false_and] at q
      exact ⟨_, rfl, iteF q⟩
theorem H_cells_of (p : Pl K mg "cells_of" s_cells_of) (B : Bi mg) : Has P w K mg base CX0 1 "cells_of" ["first", "second", "brick"] (SpCells K) := by
  refine p.mk0 sc_cells_of (fun _ _ _ _ _ _ us hl => match us, hl with | [_, _, _], _ => rfl) (fun vs H Q E h => ?_) (fun f cdv A outer s H vs Q E hr h => ?_)
  · cases h; rfl
  · obtain @⟨o, b, fi, se, _, _, _, ho, h1, h2, q⟩ := h
    refine ⟨_, (pss_cons (ps_asg (pe_ifExp (pt_val (pe_ix (r := rIxT K) ix_tup (pv 2) pe_int (fun _ _ => rfl))) (pe_tup (pa_cons (pv 0) (pa_cons (pv 1) pa_nil))) (pe_tup (pa_cons (pv 1) (pa_cons (pv 0) pa_nil)))) (pg_tup (by rfl) (pgs_cons (pg_name (i := 3) sc_cells_of.nd rfl (Or.inl rfl)) (pgs_cons (pg_name (i := 4) sc_cells_of.nd rfl (Or.inl rfl)) pgs_nil))))
      (pss_cons (ps_set (i := 5) sc_cells_of.nd rfl (Or.inl rfl) (pe_lst pa_nil))
      (pss_cons (ps_for PassesOwn.never (by rfl) (pi_range1 (by rfl) B.range (pa_cons (pv 3) pa_nil)) (pg_name (i := 6) sc_cells_of.nd rfl (Or.inr rfl)) (pss_one (ps_expr (pe_bm PySem.F.plainAttrs_list PySem.F.slot_list_extend PySem.F.type_list_extend mt_extend (pv 5) (pa_cons (pe_lc (own := [("up", 7)]) (by rfl) sc_cells_of.nd (pi_range1 (by rfl) B.range (pa_cons (pv 4) pa_nil)) (blkOk_by (own := [("up", 7)]) (N := ["first", "second", "brick", "long", "high", "found", "along", "up"]) (sc := defScope s_cells_of) (by decide +kernel)) (fun _ _ _ _ _ => (pg_name (i := 7) sc_cells_of.nd rfl (Or.inl rfl))) (fun _ _ _ _ _ => pts_nil) (fun _ _ _ _ _ => (pe_tup (pa_cons (pe_op op_add (pe_ix (r := rIxT K) ix_tup (pv 2) pe_int (fun _ _ => rfl)) (pv 6)) (pa_cons (pe_op op_add (pe_ix (r := rIxT K) ix_tup (pv 2) pe_int (fun _ _ => rfl)) (pv 7)) pa_nil))))) pa_nil)))))
      (pss_one (ps_ret (pv 5)))))), ?_⟩
    unfold cellsL at q
    obtain ⟨x, y, l⟩ := b
    generalize hlo : Brick.lo fi se ⟨x, y, l⟩ = lo at h1 q
    generalize hhi : Brick.hi fi se ⟨x, y, l⟩ = hi at h2 q
    cases l
    all_goals
      unfold Brick.lo at hlo
      unfold Brick.hi at hhi
      simp only [Bool.false_eq_true, if_false, if_true] at hlo hhi
      subst hlo hhi
      refine ⟨_, rfl, o, _, 2, _, rfl, rfl, ho, rfl, _, rfl, ?_⟩
      first | refine iteF ?_ | refine iteT ?_
      walk_at "rd"
      intro p1 hp1
      generalize hH1 : upd H p1 _ = H1
      obtain ⟨sm1, up1⟩ := newH hH1 hp1
      clear hH1
      refine ⟨p1, _, rfl, sqT up1, rfl, ?_⟩
      walk_at "rd"
      intro F hF
      have ho1 := Same.tup sm1 ho
      refine ⟨_, rfl, _, rfl, by omega, by omega, for_range (lo := 0) (n := _) (fun i σ H' => CellsI fi se o F _ _ x y H1 i σ H') (.mk (cs := []) (same_upd hF) upd_same (fun q hq => nomatch hq) rfl) ?_ ?_⟩
      · rintro i _ H2 hi @⟨_, _, _, cs, sm2, eF, hc, hv⟩
        have e0 : (0 : Int) + (i : Int) = i := by omega
        refine ⟨_, rfl, .inl ⟨rfl, _, sqL eF⟩, _, rfl, _, rfl, by omega, by omega, fun D hD => ?_⟩
        have nFD : F ≠ D := ne_of_none eF hD
        refine lc_range (lo := 0) (n := _) (fun j H' => Same H2 H' ∧ ∃ ds, H' D = some (.lst (refs ds)) ∧ CeAll H' ds ∧ vals ds = colL (x + (i : Int)) y j) ⟨same_upd hD, [], upd_same, (fun q hq => nomatch hq), rfl⟩ ?_ ?_
        · rintro j H3 hj ⟨sm3, ds, eD, hds, vds⟩
          have e1 : (0 : Int) + (j : Int) = j := by omega
          have ho3 := Same.tup (sm2.trans sm3) ho1
          refine ⟨rfl, lc_yes ?_⟩
          refine ⟨_, rfl, o, _, 0, _, rfl, rfl, ho3, rfl, _, rfl, _, _, rfl, rfl, _, rfl, o, _, 1, _, rfl, rfl, ho3, rfl, _, rfl, _, _, rfl, rfl, ?_⟩
          refine ⟨size4 (by simp), fun p4 hp4 => ?_⟩
          have nDp : D ≠ p4 := ne_of_none eD hp4
          refine ⟨_, by rw [upd_ne nDp]; exact eD, ?_, ?_, ds ++ [(p4, (x + (i : Int), y + (j : Int)))], ?_, ?_, ?_⟩
          · rw [refs_len, ← vals_len, vds, col_len]
            exact Nat.lt_of_lt_of_le hj (size4 (by omega))
          · exact fun b1 o1 e => by rw [upd_ne (ne_of_none e hD)]; exact same_upd hp4 _ _ (sm3 b1 o1 e)
          · rw [upd_same, refs_app]
            rfl
          · refine fun q hq => ?_
            have z := ce_add (H := upd H3 p4 (.tup (cellV (x + (i : Int), y + (j : Int))))) (c := (x + (i : Int), y + (j : Int))) (hds.mono (same_upd hp4)) upd_same q hq
            have nq : q.1 ≠ D := fun z2 => by
              rw [z2, upd_ne nDp, eD] at z
              cases z
            rw [upd_ne nq, e0, e1]
            exact z
          · rw [vals_app, vds, col_succ]
            rfl
        · rintro H3 ⟨sm3, ds, eD, hds, vds⟩
          have eF3 := sm3 _ _ eF
          refine ⟨F, D, _, _, rfl, rfl, eF3, eD, ?_, ?_⟩
          · rw [refs_len, refs_len, ← vals_len cs, ← vals_len ds, hv, vds, cols_len, col_len]
            exact size4 (mul_add_le (by omega) (by omega))
          · refine .mk (cs := cs ++ ds) ?_ ?_ ?_ ?_
            · exact fun b1 o1 e => by rw [upd_ne (ne_of_none e hF)]; exact sm3 _ _ (sm2 b1 o1 e)
            · rw [upd_same, refs_app]
            · refine fun q hq => ?_
              have z : H3 q.1 = some (.tup (cellV q.2)) := by
                rcases List.mem_append.mp hq with a | a
                · exact hc.mono sm3 q a
                · exact hds q a
              have nq : q.1 ≠ F := fun z2 => by
                rw [z2, eF3] at z
                cases z
              rw [upd_ne nq]
              exact z
            · rw [vals_app, hv, vds, cols_succ]
      · rintro _ H2 @⟨_, _, _, cs, sm2, eF, hc, hv⟩
        exact ⟨_, rfl, q F H2 cs (sm1.trans sm2) eF hc hv⟩
end
end BF

/-! ### laying.py: floors that can be laid -/
namespace BF
open PySem PySem.Spec PyProof.Rows L2
/-- nothing bars -/
def Free (L W f s : Int) : Prop := strL L W f s = [] ∧ shoL L W f s = []
noncomputable def planP (L W f s : Int) : Int × Int :=
  if L % f = 0 ∧ W % s = 0 then (L, W) else if L % s = 0 ∧ W % f = 0 then (0, 0) else if L % f = 0 then (L, ((parts W f s).getD (0, 0)).2 * s) else (((parts L f s).getD (0, 0)).1 * f, W)
noncomputable def brickP (L W f s : Int) (c : Int × Int) : Brick :=
  if c.1 < (planP L W f s).1 ∧ c.2 < (planP L W f s).2 then ⟨c.1 / f * f, c.2 / s * s, true⟩ else
    ⟨(if (planP L W f s).2 = W then (planP L W f s).1 else 0) + (c.1 - (if (planP L W f s).2 = W then (planP L W f s).1 else 0)) / s * s, (if (planP L W f s).1 = L then (planP L W f s).2 else 0) + (c.2 - (if (planP L W f s).1 = L then (planP L W f s).2 else 0)) / f * f, decide (f = s)⟩
inductive SpLaid : Sp where
  | mk {L W f s : Int} {H : Hp} {Q : VK} {E : XK} (hL : Sz L) (hW : Sz W) (hf : Sz f) (hs : Sz s) (fr : Free L W f s) (q : ∀ H', Same H H' → Q .non H') : SpLaid [.int L, .int W, .int f, .int s] H Q E
inductive SpPlan : Sp where
  | mk {L W f s : Int} {H : Hp} {Q : VK} {E : XK} (hL : Sz L) (hW : Sz W) (hf : Sz f) (hs : Sz s) (fr : Free L W f s) (q : ∀ p H', Same H H' → H' p = some (.tup [.int (planP L W f s).1, .int (planP L W f s).2]) → Q (.ref p) H') : SpPlan [.int L, .int W, .int f, .int s] H Q E
section
variable {P : Program} {w : World} {K : PySem.W.Frag} {mg : Str → Option Value} {base : Heap}
theorem H_check_laid (p : Pl K mg "check_laid" s_check_laid) (h_check_sizes : Has P w K mg base CX0 2 "check_sizes" ["some"] (SpCheckSizes K)) (h_what_bars : Has P w K mg base CX0 3 "what_bars" ["length", "width", "first", "second"] SpBars) :
    Has P w K mg base CX0 4 "check_laid" ["length", "width", "first", "second"] SpLaid := by
  refine p.mk0 sc_check_laid (fun _ _ _ _ _ _ us hl => match us, hl with | [_, _, _, _], _ => rfl) (fun vs H Q E h => ?_) (fun f cdv A outer s H vs Q E hr h => ?_)
  · cases h; rfl
  · obtain @⟨L, W, fi, se, _, _, _, hL, hW, hf, hs, fr, q⟩ := h
    refine ⟨_, (pss_cons (ps_expr (pe_fn h_check_sizes (hr.mono (by decide)) pass0 (pa_cons (pe_lst (pa_cons (pv 0) (pa_cons (pv 1) (pa_cons (pv 2) (pa_cons (pv 3) pa_nil))))) pa_nil)))
      (pss_one (ps_if (pt_cmpR (r := rNeD K) (op_neD hr.units) (pe_fn h_what_bars (hr.mono (by decide)) pass0 (pa_cons (pv 0) (pa_cons (pv 1) (pa_cons (pv 2) (pa_cons (pv 3) pa_nil))))) (pe_tup (pa_cons (pe_lst pa_nil) (pa_cons (pe_lst pa_nil) pa_nil))) (nomark _)) (pss_one ps_never) pss_nil))), ?_⟩
    walk_at "rd"
    intro l1 hl1
    generalize hH1 : upd H l1 _ = H1
    obtain ⟨sm1, up1⟩ : Same H H1 ∧ H1 l1 = some (.lst ([L, W, fi, se].map V.int)) := newH hH1 hl1
    clear hH1
    refine .mk (ns := [L, W, fi, se]) (sqL up1) ?_ ?_
    · intro n hn
      have e : n = L ∨ n = W ∨ n = fi ∨ n = se := by simpa using hn
      rcases e with rfl | rfl | rfl | rfl
      · exact hL.pos
      · exact hW.pos
      · exact hf.pos
      · exact hs.pos
    walk_at "rd"
    refine .mk hL hW hf hs fun t p1 p2 H2 sm2 ht hp1 hp2 => ?_
    rw [fr.1] at hp1
    rw [fr.2] at hp2
    walk_at "rd"
    intro l3 hl3
    generalize hH3 : upd H2 l3 _ = H3
    obtain ⟨sm3, up3⟩ : Same H2 H3 ∧ H3 l3 = some (.lst []) := newH hH3 hl3
    clear hH3
    walk_at "rd"
    intro l4 hl4
    generalize hH4 : upd H3 l4 _ = H4
    obtain ⟨sm4, up4⟩ : Same H3 H4 ∧ H4 l4 = some (.lst []) := newH hH4 hl4
    clear hH4
    walk_at "rd"
    intro t5 ht5
    generalize hH5 : upd H4 t5 _ = H5
    obtain ⟨sm5, up5⟩ : Same H4 H5 ∧ H5 t5 = some (.tup [.ref l3, .ref l4]) := newH hH5 ht5
    clear hH5
    have s45 := sm4.trans sm5
    have s25 := sm3.trans s45
    refine ⟨.tuple [.list [], .list []], .tuple [.list [], .list []], .tup (sqT (s25 _ _ ht)) (.cons (.lst (sqL (s25 _ _ hp1)) .nil) (.cons (.lst (sqL (s25 _ _ hp2)) .nil) .nil)), .tup (sqT up5) (.cons (.lst (sqL (s45 _ _ up3)) .nil) (.cons (.lst (sqL (sm5 _ _ up4)) .nil) .nil)), rfl, rfl, ?_⟩
    rw [SeqAt.eqv_refl]
    · exact ⟨_, rfl, iteF (q _ (sm1.trans (sm2.trans s25)))⟩
    · rfl
theorem free_parts {L W f s : Int} (fr : Free L W f s) (hf : 0 < f) (hs : 0 < s) : (∃ m n, parts L f s = some (m, n) ∧ Rep L f s m n) ∧ ∃ m n, parts W f s = some (m, n) ∧ Rep W f s m n := by
  have h := fr.2
  unfold shoL two shoB at h
  have one : ∀ x, (parts x f s).isNone = false → ∃ m n, parts x f s = some (m, n) ∧ Rep x f s m n := by
    intro x hx
    have p := parts_is (s := x) hf hs
    cases e : BF.parts x f s with
    | none => rw [e] at hx; exact nomatch hx
    | some y =>
      rw [e] at p
      exact ⟨y.1, y.2, rfl, p.1⟩
  constructor
  · refine one L ?_
    cases e : (BF.parts L f s).isNone with
    | false => rfl
    | true => rw [e] at h; simp at h
  · refine one W ?_
    cases e : (BF.parts W f s).isNone with
    | false => rfl
    | true => rw [e] at h; simp at h
theorem Rep.le {x f s m n : Int} (h : Rep x f s m n) (hf : 0 < f) (hs : 0 < s) : m ≤ x ∧ n ≤ x ∧ m * f ≤ x ∧ n * s ≤ x := by
  obtain ⟨h1, h2, h3⟩ := h
  have a := Int.mul_le_mul_of_nonneg_left (show (1 : Int) ≤ f by omega) h1
  have b := Int.mul_le_mul_of_nonneg_left (show (1 : Int) ≤ s by omega) h2
  omega
theorem H_plan (p : Pl K mg "plan" s_plan) (h_parts_of : Has P w K mg base CX0 2 "parts_of" ["size", "first", "second"] SpParts) : Has P w K mg base CX0 3 "plan" ["length", "width", "first", "second"] SpPlan := by
  refine p.mk0 sc_plan (fun _ _ _ _ _ _ us hl => match us, hl with | [_, _, _, _], _ => rfl) (fun vs H Q E h => ?_) (fun f cdv A outer s H vs Q E hr h => ?_)
  · cases h; rfl
  · obtain @⟨L, W, fi, se, _, _, _, hL, hW, hf, hs, fr, q⟩ := h
    refine ⟨_, (pss_cons (ps_if (PW.pt (pw_and (pt_cmpR op_eq (pe_op op_mod (pv 0) (pv 2)) pe_int (nomark _)) (pw_and1 (pt_cmpR op_eq (pe_op op_mod (pv 1) (pv 3)) pe_int (nomark _))))) (pss_one (ps_ret (pe_tup (pa_cons (pv 0) (pa_cons (pv 1) pa_nil))))) pss_nil)
      (pss_cons (ps_if (PW.pt (pw_and (pt_cmpR op_eq (pe_op op_mod (pv 0) (pv 3)) pe_int (nomark _)) (pw_and1 (pt_cmpR op_eq (pe_op op_mod (pv 1) (pv 2)) pe_int (nomark _))))) (pss_one (ps_ret (pe_tup (pa_cons pe_int (pa_cons pe_int pa_nil))))) pss_nil)
      (pss_cons (ps_if (pt_cmpR op_eq (pe_op op_mod (pv 0) (pv 2)) pe_int (nomark _)) (pss_one (ps_ret (pe_tup (pa_cons (pv 0) (pa_cons (pe_op op_mulX (pe_ix (r := rIxT K) ix_tup (pe_fn h_parts_of (hr.mono (by decide)) pass0 (pa_cons (pv 1) (pa_cons (pv 2) (pa_cons (pv 3) pa_nil)))) pe_int (fun _ _ => rfl)) (pv 3)) pa_nil))))) pss_nil)
      (pss_one (ps_ret (pe_tup (pa_cons (pe_op op_mulX (pe_ix (r := rIxT K) ix_tup (pe_fn h_parts_of (hr.mono (by decide)) pass0 (pa_cons (pv 0) (pa_cons (pv 2) (pa_cons (pv 3) pa_nil)))) pe_int (fun _ _ => rfl)) (pv 2)) (pa_cons (pv 1) pa_nil)))))))), ?_⟩
    have pf := hf.pos
    have ps := hs.pos
    obtain ⟨⟨m1, n1, e1, r1⟩, ⟨m2, n2, e2, r2⟩⟩ := free_parts fr pf ps
    have b1 := r1.le pf ps
    have b2 := r2.le pf ps
    have B1 : Bn 2000 m1 := hL.bn.of_le r1.1 b1.1
    have B2 : Bn 2000 n2 := hW.bn.of_le r2.2.1 b2.2.1
    unfold planP at q
    rw [e1, e2] at q
    simp only [Option.getD_some] at q
    have two : ∀ {A B : Prop}, A → B → True := fun _ _ => trivial
    by_cases c1 : L % fi = 0 ∧ W % se = 0
    · rw [if_pos c1] at q
      walk_at "rd"
      refine iteEq (fun _ => ?_) (fun z => absurd c1.1 z)
      walk_at "rd"
      refine iteEq (fun _ => ?_) (fun z => absurd c1.2 z)
      walk_at "rd"
      exact fun p hp => q p _ (same_upd hp) upd_same
    rw [if_neg c1] at q
    refine if_no (H' := H) (fun r hr0 => ?_) ?_
    · walk_at "rd"
      refine iteEq (fun d1 => ?_) (fun z => hr0)
      walk_at "rd"
      rw [show decide (V.int (W % se) = V.int 0) = false from decide_eq_false fun z => c1 ⟨d1, V.int.inj z⟩]
      exact hr0
    by_cases c2 : L % se = 0 ∧ W % fi = 0
    · rw [if_pos c2] at q
      walk_at "rd"
      refine iteEq (fun _ => ?_) (fun z => absurd c2.1 z)
      walk_at "rd"
      refine iteEq (fun _ => ?_) (fun z => absurd c2.2 z)
      walk_at "rd"
      exact fun p hp => q p _ (same_upd hp) upd_same
    rw [if_neg c2] at q
    refine if_no (H' := H) (fun r hr0 => ?_) ?_
    · walk_at "rd"
      refine iteEq (fun d1 => ?_) (fun z => hr0)
      walk_at "rd"
      rw [show decide (V.int (W % fi) = V.int 0) = false from decide_eq_false fun z => c2 ⟨d1, V.int.inj z⟩]
      exact hr0
    walk_at "rd"
    refine iteEq (fun d1 => ?_) (fun d1 => ?_)
    · rw [if_pos d1] at q
      walk_at "rd"
      refine .mk hW hf hs (tell_of fun v H5 sm5 tv => ?_)
      rw [e2] at tv
      obtain ⟨p5, rfl, hp5⟩ := tv
      refine ⟨p5, _, 1, _, rfl, rfl, sqT hp5, rfl, ?_⟩
      walk_at "rd"
      exact fun p hp => q p _ (sm5.trans (same_upd hp)) upd_same
    · rw [if_neg d1] at q
      walk_at "rd"
      refine .mk hL hf hs (tell_of fun v H5 sm5 tv => ?_)
      rw [e1] at tv
      obtain ⟨p5, rfl, hp5⟩ := tv
      refine ⟨p5, _, 0, _, rfl, rfl, sqT hp5, rfl, ?_⟩
      walk_at "rd"
      exact fun p hp => q p _ (sm5.trans (same_upd hp)) upd_same
theorem plan_in {L W f s : Int} (hL : 0 < L) (hW : 0 < W) (hf : 0 < f) (hs : 0 < s) (fr : Free L W f s) : (0 ≤ (planP L W f s).1 ∧ (planP L W f s).1 ≤ L) ∧ 0 ≤ (planP L W f s).2 ∧ (planP L W f s).2 ≤ W := by
  obtain ⟨⟨m1, n1, e1, r1⟩, ⟨m2, n2, e2, r2⟩⟩ := free_parts fr hf hs
  have b1 := r1.le hf hs
  have b2 := r2.le hf hs
  unfold planP
  rw [e1, e2]
  simp only [Option.getD_some]
  have z1 := Int.mul_nonneg r1.1 (Int.le_of_lt hf)
  have z2 := Int.mul_nonneg r2.2.1 (Int.le_of_lt hs)
  split
  · exact ⟨⟨by omega, by omega⟩, by omega, by omega⟩
  split
  · exact ⟨⟨by omega, by omega⟩, by omega, by omega⟩
  split
  · exact ⟨⟨by omega, by omega⟩, z2, b2.2.2.2⟩
  · exact ⟨⟨z1, b1.2.2.1⟩, by omega, by omega⟩
inductive SpBrickOn : Sp where
  | mk {t : Addr} {c : Int × Int} {L W f s : Int} {H : Hp} {Q : VK} {E : XK} (hL : Sz L) (hW : Sz W) (hf : Sz f) (hs : Sz s) (fr : Free L W f s) (ht : H t = some (.tup (cellV c))) (hc : cellB L W c = true)
      (q : ∀ p p1 H', Same H H' → H' p = some (.tup [.ref p1, .bl (brickP L W f s c).l]) → H' p1 = some (.tup (cellV ((brickP L W f s c).x, (brickP L W f s c).y))) → Q (.ref p) H') : SpBrickOn [.int L, .int W, .int f, .int s, .ref t] H Q E
theorem H_brick_on (p : Pl K mg "brick_on" s_brick_on) (h_check_laid : Has P w K mg base CX0 4 "check_laid" ["length", "width", "first", "second"] SpLaid) (h_is_cell : Has P w K mg base CX0 2 "is_cell" ["length", "width", "thing"] SpIsCell) (h_plan : Has P w K mg base CX0 3 "plan" ["length", "width", "first", "second"] SpPlan) :
    Has P w K mg base CX0 5 "brick_on" ["length", "width", "first", "second", "cell"] SpBrickOn := by
  refine p.mk0 sc_brick_on (fun _ _ _ _ _ _ us hl => match us, hl with | [_, _, _, _, _], _ => rfl) (fun vs H Q E h => ?_) (fun f cdv A outer s H vs Q E hr h => ?_)
  · cases h; rfl
  · obtain @⟨t, ⟨c1, c2⟩, L, W, fi, se, _, _, _, hL, hW, hf, hs, fr, ht, hc, q⟩ := h
    refine ⟨_, (pss_cons (ps_expr (pe_fn h_check_laid (hr.mono (by decide)) pass0 (pa_cons (pv 0) (pa_cons (pv 1) (pa_cons (pv 2) (pa_cons (pv 3) pa_nil))))))
      (pss_cons (ps_if (pt_not (pt_val (pe_fn h_is_cell (hr.mono (by decide)) pass0 (pa_cons (pv 0) (pa_cons (pv 1) (pa_cons (pv 4) pa_nil)))))) (pss_one ps_never) pss_nil)
      (pss_cons (ps_asg (pe_fn h_plan (hr.mono (by decide)) pass0 (pa_cons (pv 0) (pa_cons (pv 1) (pa_cons (pv 2) (pa_cons (pv 3) pa_nil))))) (pg_tup (by rfl) (pgs_cons (pg_name (i := 5) sc_brick_on.nd rfl (Or.inl rfl)) (pgs_cons (pg_name (i := 6) sc_brick_on.nd rfl (Or.inl rfl)) pgs_nil))))
      (pss_cons (ps_if (PW.pt (pw_and (pt_cmpR op_lt (pe_ix (r := rIxT K) ix_tup (pv 4) pe_int (fun _ _ => rfl)) (pv 5) (nomark _)) (pw_and1 (pt_cmpR op_lt (pe_ix (r := rIxT K) ix_tup (pv 4) pe_int (fun _ _ => rfl)) (pv 6) (nomark _))))) (pss_one (ps_ret (pe_tup (pa_cons (pe_tup (pa_cons (pe_op op_mulX (pe_op op_fdivW (pe_ix (r := rIxT K) ix_tup (pv 4) pe_int (fun _ _ => rfl)) (pv 2)) (pv 2)) (pa_cons (pe_op op_mulX (pe_op op_fdivW (pe_ix (r := rIxT K) ix_tup (pv 4) pe_int (fun _ _ => rfl)) (pv 3)) (pv 3)) pa_nil))) (pa_cons pe_bl pa_nil))))) pss_nil)
      (pss_cons (ps_par (i := 7) (j := 8) (by rfl) sc_brick_on.nd rfl rfl (by decide) rfl rfl (pa_cons (pe_ifExp (pt_cmpR op_eq (pv 6) (pv 1) (nomark _)) (pv 5) pe_int) (pa_cons (pe_ifExp (pt_cmpR op_eq (pv 5) (pv 0) (nomark _)) (pv 6) pe_int) pa_nil)) (by rfl))
      (pss_cons (ps_set (i := 9) sc_brick_on.nd rfl (Or.inl rfl) (pe_tup (pa_cons (pe_op op_add (pv 7) (pe_op op_mulX (pe_op op_fdivW (pe_op op_sub (pe_ix (r := rIxT K) ix_tup (pv 4) pe_int (fun _ _ => rfl)) (pv 7)) (pv 3)) (pv 3))) (pa_cons (pe_op op_add (pv 8) (pe_op op_mulX (pe_op op_fdivW (pe_op op_sub (pe_ix (r := rIxT K) ix_tup (pv 4) pe_int (fun _ _ => rfl)) (pv 8)) (pv 2)) (pv 2))) pa_nil))))
      (pss_one (ps_ret (pe_tup (pa_cons (pv 9) (pa_cons (pe_cmpR op_eq (pv 2) (pv 3) (nomark _)) pa_nil))))))))))), ?_⟩
    have pin := plan_in hL.pos hW.pos hf.pos hs.pos fr
    walk_at "rd"
    refine .mk hL hW hf hs fr fun H1 sm1 => ?_
    walk_at "rd"
    refine .mk (sm1 _ _ ht) ?_
    rw [hc]
    refine ⟨_, rfl, iteF ?_⟩
    walk_at "rd"
    refine .mk hL hW hf hs fr fun p2 H2 sm2 hp2 => ?_
    unfold brickP at q
    generalize planP L W fi se = pl at hp2 pin q
    obtain ⟨al, up⟩ := pl
    dsimp only at hp2 pin q
    have hc2 := hc
    unfold cellB at hc2
    simp only [Bool.and_eq_true, decide_eq_true_eq] at hc2
    refine ⟨p2, _, rfl, sqT hp2, rfl, ?_⟩
    have s02 := sm1.trans sm2
    have ht2 := sqT (K := K) (s02 _ _ ht)
    have Bc1 : Bn 2000 c1 := hL.bn.of_le (by omega) (by omega)
    have Bc2 : Bn 2000 c2 := hW.bn.of_le (by omega) (by omega)
    have Ba : Bn 2000 al := hL.bn.of_le (by omega) (by omega)
    have Bu : Bn 2000 up := hW.bn.of_le (by omega) (by omega)
    refine ⟨_, _, rfl, _, _, rfl, rfl, ?_⟩
    by_cases cc : c1 < al ∧ c2 < up
    · simp only [if_pos cc] at q
      refine ⟨_, rfl, t, _, 0, _, rfl, rfl, ht2, rfl, ?_⟩
      walk_at "rd"
      refine iteP cc.1 ?_
      refine ⟨_, rfl, t, _, 1, _, rfl, rfl, ht2, rfl, ?_⟩
      walk_at "rd"
      refine iteP cc.2 ?_
      refine ⟨_, rfl, t, _, 0, _, rfl, rfl, ht2, rfl, ?_⟩
      walk_at "rd"
      refine ⟨t, _, 1, _, rfl, rfl, ht2, rfl, ?_⟩
      walk_at "rd"
      intro p3 hp3
      generalize hH3 : upd H2 p3 _ = H3
      obtain ⟨sm3, up3⟩ : Same H2 H3 ∧ H3 p3 = some (.tup (cellV (c1 / fi * fi, c2 / se * se))) := newH hH3 hp3
      clear hH3
      walk_at "rd"
      exact fun p4 hp4 => q p4 p3 _ (s02.trans (sm3.trans (same_upd hp4))) upd_same (same_upd hp4 _ _ up3)
    simp only [if_neg cc] at q
    dsimp only
    refine if_no (H' := H2) (fun r hr0 => ?_) ?_
    · refine ⟨_, rfl, t, _, 0, _, rfl, rfl, ht2, rfl, ?_⟩
      walk_at "rd"
      refine iteD (fun d1 => ?_) (fun _ => hr0)
      refine ⟨_, rfl, t, _, 1, _, rfl, rfl, ht2, rfl, ?_⟩
      walk_at "rd"
      rw [show decide (c2 < up) = false from decide_eq_false fun z => cc ⟨d1, z⟩]
      exact hr0
    generalize hbe : (if up = W then al else 0) = be at q
    generalize hlo : (if al = L then up else 0) = lo at q
    have Bb : Bn 2000 be := by rw [← hbe]; split; exact Ba; exact bn0
    have Bl : Bn 2000 lo := by rw [← hlo]; split; exact Bu; exact bn0
    have ed : decide (V.int fi = V.int se) = decide (fi = se) := decide_eq_decide.mpr ⟨fun z => V.int.inj z, fun z => congrArg V.int z⟩
    by_cases h1 : up = W <;> by_cases h2 : al = L
    all_goals
      first | rw [if_pos h1] at hbe | rw [if_neg h1] at hbe
      first | rw [if_pos h2] at hlo | rw [if_neg h2] at hlo
      rw [← hbe] at Bb
      rw [← hlo] at Bl
      rw [← hbe, ← hlo] at q
      walk_at "rd"
      first | refine iteEq (fun _ => ?_) (fun z => absurd h1 z) | refine iteEq (fun z => absurd z h1) (fun _ => ?_)
      walk_at "rd"
      first | refine iteEq (fun _ => ?_) (fun z => absurd h2 z) | refine iteEq (fun z => absurd z h2) (fun _ => ?_)
      walk_at "rd"
      refine ⟨t, _, 0, _, rfl, rfl, ht2, rfl, ?_⟩
      walk_at "rd"
      refine ⟨t, _, 1, _, rfl, rfl, ht2, rfl, ?_⟩
      walk_at "rd"
      intro p3 hp3
      refine ⟨_, rfl, ?_⟩
      walk_at "rd"
      intro p4 hp4
      refine q p4 p3 _ (s02.trans ((same_upd hp3).trans (same_upd hp4))) ?_ ?_
      · rw [← ed]
        exact upd_same
      · exact same_upd hp4 _ _ upd_same
/-- how many lie -/
noncomputable def lieP (L W f s : Int) : Int := if f = s then L * W / (f * s) else (planP L W f s).1 * (planP L W f s).2 / (f * s)
inductive SpLying : Sp where
  | mk {L W f s : Int} {H : Hp} {Q : VK} {E : XK} (hL : Sz L) (hW : Sz W) (hf : Sz f) (hs : Sz s) (fr : Free L W f s) (q : ∀ H', Same H H' → Q (.int (lieP L W f s)) H') : SpLying [.int L, .int W, .int f, .int s] H Q E
inductive SpStanding : Sp where
  | mk {L W f s : Int} {H : Hp} {Q : VK} {E : XK} (hL : Sz L) (hW : Sz W) (hf : Sz f) (hs : Sz s) (fr : Free L W f s) (q : ∀ H', Same H H' → Q (.int (L * W / (f * s) - lieP L W f s)) H') : SpStanding [.int L, .int W, .int f, .int s] H Q E
end
end BF

/-! ### floors that can be laid one way -/
namespace BF
theorem free_of {L W f s m n u v : Int} (hf : 0 < f) (hs : 0 < s) (a : L % f = 0 ∨ W % f = 0) (b : L % s = 0 ∨ W % s = 0) (r1 : Rep L f s m n) (r2 : Rep W f s u v) : Free L W f s := by
  have s1 : strB L W f = false := by
    unfold strB
    rcases a with e | e
    · rw [decide_eq_true e]; rfl
    · rw [decide_eq_true e, Bool.not_true, Bool.and_false]
  have s2 : strB L W s = false := by
    unfold strB
    rcases b with e | e
    · rw [decide_eq_true e]; rfl
    · rw [decide_eq_true e, Bool.not_true, Bool.and_false]
  refine ⟨?_, ?_⟩
  · unfold strL
    rw [s1, s2]
    rfl
  · unfold shoL
    rw [sho_no hf hs r1, sho_no hf hs r2]
    rfl
theorem plan_lie {L W f s : Int} (h1 : L % f = 0) (h2 : W % s = 0) : planP L W f s = (L, W) := by
  unfold planP
  rw [if_pos ⟨h1, h2⟩]
theorem plan_stand {L W f s : Int} (h0 : ¬ (L % f = 0 ∧ W % s = 0)) (h1 : L % s = 0) (h2 : W % f = 0) : planP L W f s = (0, 0) := by
  unfold planP
  rw [if_neg h0, if_pos ⟨h1, h2⟩]
theorem brick_lie {L W f s : Int} {c : Int × Int} (h1 : L % f = 0) (h2 : W % s = 0) (hc : cellB L W c = true) : brickP L W f s c = ⟨c.1 / f * f, c.2 / s * s, true⟩ := by
  unfold cellB at hc
  simp only [Bool.and_eq_true, decide_eq_true_eq] at hc
  unfold brickP
  rw [plan_lie h1 h2]
  rw [if_pos ⟨by omega, by omega⟩]
theorem brick_stand {L W f s : Int} {c : Int × Int} (hL : 0 < L) (hW : 0 < W) (h0 : ¬ (L % f = 0 ∧ W % s = 0)) (h1 : L % s = 0) (h2 : W % f = 0) (hc : cellB L W c = true) : brickP L W f s c = ⟨c.1 / s * s, c.2 / f * f, decide (f = s)⟩ := by
  unfold cellB at hc
  simp only [Bool.and_eq_true, decide_eq_true_eq] at hc
  unfold brickP
  rw [plan_stand h0 h1 h2]
  dsimp only
  rw [if_neg (by omega), if_neg (show ¬ (0 : Int) = W by omega), if_neg (show ¬ (0 : Int) = L by omega), Int.sub_zero, Int.sub_zero, Int.zero_add, Int.zero_add]
end BF

/-! ### the answers' own __init__ -/
namespace BF
open PySem PySem.Spec PyProof.Rows L2
section
variable {P : Program} {w : World} {K : PySem.W.Frag} {mg : Str → Option Value} {base : Heap}
theorem H_Beyond___init__ (p : PlM K .beyond "__init__" "Beyond.__init__" s_Beyond___init__) (G : ClG K mg) : HasM P w K mg base CX0 1 .beyond "__init__" ["self", "count"] (SpInit K .beyond) := by
  refine p.mk0 sc_Beyond___init__ (fun _ _ _ _ _ _ us hl => match us, hl with | [_, _], _ => rfl) (fun vs H Q E h => ?_) (fun f cdv A outer s H vs Q E hr h => ?_)
  · cases h; rfl
  · obtain @⟨p, dx, v, _, _, _, hp, q⟩ := h
    have F := G.f .beyond (by decide)
    exact ⟨_, (pss_one (ps_fld (pv 0) (pv 1) rfl)), ⟨_, rfl, _, rfl, p, _, dx, [], rfl, hp, F.c, F.no, by decide, q⟩⟩
theorem H_Twice___init__ (p : PlM K .twice "__init__" "Twice.__init__" s_Twice___init__) (G : ClG K mg) : HasM P w K mg base CX0 1 .twice "__init__" ["self", "cell"] (SpInit K .twice) := by
  refine p.mk0 sc_Twice___init__ (fun _ _ _ _ _ _ us hl => match us, hl with | [_, _], _ => rfl) (fun vs H Q E h => ?_) (fun f cdv A outer s H vs Q E hr h => ?_)
  · cases h; rfl
  · obtain @⟨p, dx, v, _, _, _, hp, q⟩ := h
    have F := G.f .twice (by decide)
    exact ⟨_, (pss_one (ps_fld (pv 0) (pv 1) rfl)), ⟨_, rfl, _, rfl, p, _, dx, [], rfl, hp, F.c, F.no, by decide, q⟩⟩
theorem H_Bare___init__ (p : PlM K .bare "__init__" "Bare.__init__" s_Bare___init__) (G : ClG K mg) : HasM P w K mg base CX0 1 .bare "__init__" ["self", "cell"] (SpInit K .bare) := by
  refine p.mk0 sc_Bare___init__ (fun _ _ _ _ _ _ us hl => match us, hl with | [_, _], _ => rfl) (fun vs H Q E h => ?_) (fun f cdv A outer s H vs Q E hr h => ?_)
  · cases h; rfl
  · obtain @⟨p, dx, v, _, _, _, hp, q⟩ := h
    have F := G.f .bare (by decide)
    exact ⟨_, (pss_one (ps_fld (pv 0) (pv 1) rfl)), ⟨_, rfl, _, rfl, p, _, dx, [], rfl, hp, F.c, F.no, by decide, q⟩⟩
end
end BF

/-! ### Full, Beyond, Twice, Bare: what they show -/
namespace BF
open PySem PySem.Spec PyProof.Rows L2
/-- an answer of a judged list -/
inductive D5 where
  | full
  | beyond (i : Int)
  | twice (c : Int × Int)
  | bare (c : Int × Int)
def D5.cl : D5 → Cl
  | .full => .full
  | .beyond _ => .beyond
  | .twice _ => .twice
  | .bare _ => .bare
theorem D5.ok (d : D5) : Ok5 d.cl := by
  unfold Ok5
  cases d <;> simp [D5.cl]
/-- such an answer at an address -/
inductive At5 (K : PySem.W.Frag) (H : Hp) (p : Addr) : D5 → Prop where
  | full (h : AnsAt K H p .full) : At5 K H p .full
  | beyond {i : Int} (h : AnsAt K H p (.beyond (.int i))) : At5 K H p (.beyond i)
  | twice {t : Addr} {c : Int × Int} (h : AnsAt K H p (.twice (.ref t))) (ht : H t = some (.tup (cellV c))) : At5 K H p (.twice c)
  | bare {t : Addr} {c : Int × Int} (h : AnsAt K H p (.bare (.ref t))) (ht : H t = some (.tup (cellV c))) : At5 K H p (.bare c)
theorem At5.mono {K : PySem.W.Frag} {H H' : Hp} {p : Addr} {d : D5} (h : At5 K H p d) (sm : Same H H') : At5 K H' p d := by
  cases h with
  | full h => exact .full (h.mono sm)
  | beyond h => exact .beyond (h.mono sm)
  | twice h ht => exact .twice (h.mono sm) (sm _ _ ht)
  | bare h ht => exact .bare (h.mono sm) (sm _ _ ht)
def fullB (L W f s : Int) (bs : List Brick) : Bool := !(bs.any (beyB L W f s)) && (gridL L W).all fun c => decide (oftN f s bs c = 1)
def beyAt (L W f s : Int) (bs : List Brick) (i : Int) : Bool := (decide (0 ≤ i) && decide (i < bs.length)) && (match bs[i.toNat]? with
  | some b => beyB L W f s b
  | none => false)
def due5 (L W f s : Int) (bs : List Brick) : D5 → Bool
  | .full => fullB L W f s bs
  | .beyond i => beyAt L W f s bs i
  | .twice c => cellB L W c && decide (1 < oftN f s bs c)
  | .bare c => cellB L W c && decide (oftN f s bs c = 0)
inductive SpShows5 (K : PySem.W.Frag) (x : Cl) : Sp where
  | mk {p l : Addr} {d : D5} {ps : List (Addr × Brick)} {L W f s : Int} {H : Hp} {Q : VK} {E : XK} (ha : At5 K H p d) (hx : d.cl = x) (hL : 0 < L ∧ L ≤ 1000) (hW : 0 < W ∧ W ≤ 1000) (hf : 0 < f) (hs : 0 < s) (hl : SqL K H l (refs ps)) (hb : BrAll K H ps) (hn : ps.length ≤ 10000)
      (q : ∀ H', Same H H' → Q (.bl (due5 L W f s (vals ps) d)) H') : SpShows5 K x [.ref p, .int L, .int W, .int f, .int s, .ref l] H Q E
section
variable {P : Program} {w : World} {K : PySem.W.Frag} {mg : Str → Option Value} {base : Heap}
theorem H_Beyond_shows (p : PlM K .beyond "shows" "Beyond.shows" s_Beyond_shows) (B : Bi mg) (G : ClG K mg) (h_is_beyond : Has P w K mg base CX0 1 "is_beyond" ["length", "width", "first", "second", "brick"] (SpBeyond K)) :
    HasM P w K mg base CX0 2 .beyond "shows" ["self", "length", "width", "first", "second", "bricks"] (SpShows5 K .beyond) := by
  refine p.mk0 sc_Beyond_shows (fun _ _ _ _ _ _ us hl => match us, hl with | [_, _, _, _, _, _], _ => rfl) (fun vs H Q E h => ?_) (fun f cdv A outer s H vs Q E hr h => ?_)
  · cases h; rfl
  · obtain @⟨p, l, d, ps, L, W, fi, se, _, _, _, ha, hx, hL, hW, hf, hs, hl, hb, hn, q⟩ := h
    refine ⟨_, (pss_one (ps_ret (pe_and (pe_chain op_le op_lt pe_int (pe_fld (pv 0) rfl) (pe_callB (r := rLen2 K) call_len_seq (by rfl) B.len PySem.boot_len (pa_cons (pv 5) pa_nil))) (pe_one (pe_fn h_is_beyond (hr.mono (by decide)) pass0 (pa_cons (pv 1) (pa_cons (pv 2) (pa_cons (pv 3) (pa_cons (pv 4) (pa_cons (pe_ix (r := rIxL K) ix_list (pv 5) (pe_fld (pv 0) rfl) (fun _ _ => rfl)) pa_nil)))))))))), ?_⟩
    cases ha with
    | full h => cases hx
    | twice h ht => cases hx
    | bare h ht => cases hx
    | @beyond i h =>
      obtain ⟨dx, hp⟩ := h
      have F := G.f .beyond (by decide)
      have q : ∀ H', Same H H' → Q (.bl (beyAt L W fi se (vals ps) i)) H' := q
      unfold beyAt at q
      rw [vals_len] at q
      refine ⟨_, rfl, p, _, dx, _, _, rfl, hp, F.c, F.no, rfl, ?_⟩
      walk_at "rd"
      refine iteD (fun c => ?_) (fun c => ?_)
      · have c : 0 ≤ i := c
        simp only [decide_eq_true c, Bool.true_and] at q
        refine ⟨_, rfl, l, _, rfl, .inl hl, ?_⟩
        walk_at "rd"
        rw [refs_len]
        refine iteD (fun c2 => ?_) (fun c2 => ?_)
        · have c2 : i < (ps.length : Int) := c2
          simp only [decide_eq_true c2, Bool.true_and] at q
          walk_at "rd"
          obtain ⟨n, rfl⟩ := Int.eq_ofNat_of_zero_le c
          have hlt : n < ps.length := by omega
          have hpn : ps[n]? = some ps[n] := List.getElem?_eq_getElem hlt
          have hv : (vals ps)[(n : Int).toNat]? = some ps[n].2 := by
            unfold vals
            rw [Int.toNat_natCast, List.getElem?_map, hpn]
            rfl
          rw [hv] at q
          have hrv : (refs ps)[n]? = some (.ref ps[n].1) := by
            unfold refs
            rw [List.getElem?_map, hpn]
            rfl
          refine ⟨p, _, dx, _, _, rfl, hp, F.c, F.no, rfl, l, _, _, _, rfl, rfl, hl, atI_nat hrv, ?_⟩
          exact .mk (hb _ (List.getElem_mem hlt)) q
        · have c2 : ¬ i < (ps.length : Int) := c2
          simp only [decide_eq_false c2, Bool.false_and] at q
          exact q _ (Same.refl _)
      · have c : ¬ 0 ≤ i := c
        simp only [decide_eq_false c, Bool.false_and] at q
        exact ⟨_, rfl, iteF (q _ (Same.refl _))⟩
theorem H_Twice_shows (p : PlM K .twice "shows" "Twice.shows" s_Twice_shows) (G : ClG K mg) (h_is_cell : Has P w K mg base CX0 2 "is_cell" ["length", "width", "thing"] SpIsCell) (h_often : Has P w K mg base CX0 2 "often" ["first", "second", "bricks", "cell"] (SpOften K)) :
    HasM P w K mg base CX0 3 .twice "shows" ["self", "length", "width", "first", "second", "bricks"] (SpShows5 K .twice) := by
  refine p.mk0 sc_Twice_shows (fun _ _ _ _ _ _ us hl => match us, hl with | [_, _, _, _, _, _], _ => rfl) (fun vs H Q E h => ?_) (fun f cdv A outer s H vs Q E hr h => ?_)
  · cases h; rfl
  · obtain @⟨p, l, d, ps, L, W, fi, se, _, _, _, ha, hx, hL, hW, hf, hs, hl, hb, hn, q⟩ := h
    refine ⟨_, (pss_one (ps_ret (pe_and (pe_fn h_is_cell (hr.mono (by decide)) pass0 (pa_cons (pv 1) (pa_cons (pv 2) (pa_cons (pe_fld (pv 0) rfl) pa_nil)))) (pe_one (pe_cmpR op_gt (pe_fn h_often (hr.mono (by decide)) pass0 (pa_cons (pv 3) (pa_cons (pv 4) (pa_cons (pv 5) (pa_cons (pe_fld (pv 0) rfl) pa_nil))))) pe_int (nomark _)))))), ?_⟩
    cases ha with
    | full h => cases hx
    | beyond h => cases hx
    | bare h ht => cases hx
    | @twice t c h ht =>
      obtain ⟨dx, hp⟩ := h
      have F := G.f .twice (by decide)
      have q : ∀ H', Same H H' → Q (.bl (cellB L W c && decide (1 < oftN fi se (vals ps) c))) H' := q
      refine ⟨_, rfl, _, rfl, _, rfl, p, _, dx, _, _, rfl, hp, F.c, F.no, rfl, .mk ht ⟨_, rfl, iteB (fun c1 => ?_) (fun c1 => ?_)⟩⟩
      · rw [c1] at q
        refine ⟨_, rfl, _, rfl, _, rfl, _, rfl, p, _, dx, _, _, rfl, hp, F.c, F.no, rfl, .mk hl hb hn (sqT ht) fun H1 sm1 => ?_⟩
        walk_at "rd"
        have e : decide ((1 : Int) < (oftN fi se (vals ps) c : Nat)) = decide (1 < oftN fi se (vals ps) c) := decide_eq_decide.mpr (by omega)
        show Q (.bl (decide ((1 : Int) < (oftN fi se (vals ps) c : Nat)))) H1
        rw [e]
        exact q _ sm1
      · rw [c1] at q
        exact q _ (Same.refl _)
theorem H_Bare_shows (p : PlM K .bare "shows" "Bare.shows" s_Bare_shows) (G : ClG K mg) (h_is_cell : Has P w K mg base CX0 2 "is_cell" ["length", "width", "thing"] SpIsCell) (h_often : Has P w K mg base CX0 2 "often" ["first", "second", "bricks", "cell"] (SpOften K)) :
    HasM P w K mg base CX0 3 .bare "shows" ["self", "length", "width", "first", "second", "bricks"] (SpShows5 K .bare) := by
  refine p.mk0 sc_Bare_shows (fun _ _ _ _ _ _ us hl => match us, hl with | [_, _, _, _, _, _], _ => rfl) (fun vs H Q E h => ?_) (fun f cdv A outer s H vs Q E hr h => ?_)
  · cases h; rfl
  · obtain @⟨p, l, d, ps, L, W, fi, se, _, _, _, ha, hx, hL, hW, hf, hs, hl, hb, hn, q⟩ := h
    refine ⟨_, (pss_one (ps_ret (pe_and (pe_fn h_is_cell (hr.mono (by decide)) pass0 (pa_cons (pv 1) (pa_cons (pv 2) (pa_cons (pe_fld (pv 0) rfl) pa_nil)))) (pe_one (pe_cmpR op_eq (pe_fn h_often (hr.mono (by decide)) pass0 (pa_cons (pv 3) (pa_cons (pv 4) (pa_cons (pv 5) (pa_cons (pe_fld (pv 0) rfl) pa_nil))))) pe_int (nomark _)))))), ?_⟩
    cases ha with
    | full h => cases hx
    | beyond h => cases hx
    | twice h ht => cases hx
    | @bare t c h ht =>
      obtain ⟨dx, hp⟩ := h
      have F := G.f .bare (by decide)
      have q : ∀ H', Same H H' → Q (.bl (cellB L W c && decide (oftN fi se (vals ps) c = 0))) H' := q
      refine ⟨_, rfl, _, rfl, _, rfl, p, _, dx, _, _, rfl, hp, F.c, F.no, rfl, .mk ht ⟨_, rfl, iteB (fun c1 => ?_) (fun c1 => ?_)⟩⟩
      · rw [c1] at q
        refine ⟨_, rfl, _, rfl, _, rfl, _, rfl, p, _, dx, _, _, rfl, hp, F.c, F.no, rfl, .mk hl hb hn (sqT ht) fun H1 sm1 => ?_⟩
        walk_at "rd"
        have e : decide (V.int (oftN fi se (vals ps) c : Nat) = V.int 0) = decide (oftN fi se (vals ps) c = 0) := decide_eq_decide.mpr ⟨fun z => by have := V.int.inj z; omega, fun z => by rw [z]; rfl⟩
        show Q (.bl (decide (V.int (oftN fi se (vals ps) c : Nat) = V.int 0))) H1
        rw [e]
        exact q _ sm1
      · rw [c1] at q
        exact q _ (Same.refl _)
end
/-- a cell as a key -/
def keyL (c : Int × Int) : List Key := [Sum.inl c.1, Sum.inl c.2]
theorem key_inj {c d : Int × Int} (h : keyL c = keyL d) : c = d := by
  obtain ⟨a, b⟩ := c
  obtain ⟨a', b'⟩ := d
  unfold keyL at h
  injection h with h1 h2
  injection h2 with h2 h3
  injection h1 with h1
  injection h2 with h2
  simp only at h1 h2
  rw [h1, h2]
theorem find_key {kvs : List (List Key × V)} {cs : List (Int × Int)} (hk : kvs.map (·.1) = cs.map keyL) (c : Int × Int) : (valV kvs (keyL c)).isSome = true ↔ c ∈ cs := by
  unfold valV
  rw [Option.isSome_map, List.find?_isSome]
  constructor
  · rintro ⟨kv, hkv, e⟩
    have m : kv.1 ∈ kvs.map (·.1) := List.mem_map_of_mem hkv
    rw [hk] at m
    obtain ⟨d, hd, ed⟩ := List.mem_map.mp m
    have e2 : kv.1 = keyL c := of_decide_eq_true e
    rw [e2] at ed
    rw [← key_inj ed]
    exact hd
  · intro h
    have m : keyL c ∈ kvs.map (·.1) := by
      rw [hk]
      exact List.mem_map_of_mem h
    obtain ⟨kv, hkv, e⟩ := List.mem_map.mp m
    exact ⟨kv, hkv, decide_eq_true e⟩
theorem put_key {kvs : List (List Key × V)} {cs : List (Int × Int)} (hk : kvs.map (·.1) = cs.map keyL) {c : Int × Int} (hc : c ∉ cs) (v : V) : (putK kvs (keyL c) v).map (·.1) = (cs ++ [c]).map keyL := by
  unfold putK
  have no : ¬ (kvs.any fun kv => decide (kv.1 = keyL c)) = true := by
    intro h
    obtain ⟨kv, hkv, e⟩ := List.any_eq_true.mp h
    have m : kv.1 ∈ kvs.map (·.1) := List.mem_map_of_mem hkv
    rw [hk] at m
    obtain ⟨d, hd, ed⟩ := List.mem_map.mp m
    have e2 : kv.1 = keyL c := of_decide_eq_true e
    rw [e2] at ed
    rw [← key_inj ed] at hc
    exact hc hd
  rw [if_neg no, List.map_append, hk, List.map_append]
  rfl
theorem keys_len {kvs : List (List Key × V)} {cs : List (Int × Int)} (hk : kvs.map (·.1) = cs.map keyL) : kvs.length = cs.length := by
  have := congrArg List.length hk
  rw [List.length_map, List.length_map] at this
  exact this
theorem fullB_eq {L W f s : Int} (hL : 0 < L) (hW : 0 < W) (hf : 0 < f) (hs : 0 < s) {bs : List Brick} (hb : ∀ b ∈ bs, beyB L W f s b = false) :
    fullB L W f s bs = true ↔ ((allL f s bs).Nodup ∧ ((allL f s bs).length : Int) = L * W) := by
  rw [full_iff hL hW hf hs hb]
  have na : bs.any (beyB L W f s) = false := by
    rw [List.any_eq_false]
    intro b hbm
    rw [hb b hbm]
    decide
  unfold fullB
  rw [na]
  show (gridL L W).all (fun c => decide (oftN f s bs c = 1)) = true ↔ _
  rw [List.all_eq_true]
  constructor
  · intro h c hc
    exact of_decide_eq_true (h c ((mem_grid (by omega) (by omega)).mpr hc))
  · intro h c hc
    exact decide_eq_true (h c ((mem_grid (by omega) (by omega)).mp hc))
theorem all_take {f s : Int} {ps : List (Addr × Brick)} {i : Nat} {p : Addr × Brick} (h : ps[i]? = some p) : allL f s ((vals ps).take (i + 1)) = allL f s ((vals ps).take i) ++ cellsL f s p.2 := by
  have et : (vals ps).take (i + 1) = (vals ps).take i ++ [p.2] := by
    unfold vals
    rw [List.take_add_one, List.getElem?_map, h]
    rfl
  unfold allL
  rw [et, List.flatMap_append]
  simp
theorem all_split {f s : Int} {ps : List (Addr × Brick)} {i : Nat} {p : Addr × Brick} (h : ps[i]? = some p) : ∃ r, allL f s (vals ps) = allL f s ((vals ps).take i) ++ (cellsL f s p.2 ++ r) := by
  have e : vals ps = (vals ps).take (i + 1) ++ (vals ps).drop (i + 1) := (List.take_append_drop _ _).symm
  refine ⟨allL f s ((vals ps).drop (i + 1)), ?_⟩
  have e2 : allL f s (vals ps) = allL f s ((vals ps).take (i + 1)) ++ allL f s ((vals ps).drop (i + 1)) := by
    unfold allL
    rw [← List.flatMap_append, List.take_append_drop]
  rw [e2, all_take h, List.append_assoc]
/-- cells on a floor of a few thousands: no more than the floor has -/
theorem nodup_len {L W : Int} (hL : 0 ≤ L ∧ L ≤ 1000) (hW : 0 ≤ W ∧ W ≤ 1000) {cs : List (Int × Int)} (nd : cs.Nodup) (h : ∀ c ∈ cs, cellB L W c = true) : cs.length ≤ 1000000 := by
  have g1 : ∀ c, (gridL L W).count c ≤ 1 := fun c => by
    rw [grid_count hL.1 hW.1]
    split <;> omega
  have sm := sum_counts g1 (all := cs) fun c hc => (mem_grid hL.1 hW.1).mpr (h c hc)
  have le : ∀ g : List (Int × Int), (g.map fun c => cs.count c).sum ≤ g.length := by
    intro g
    induction g with
    | nil => exact Nat.le_refl _
    | cons b g ih =>
      rw [List.map_cons, List.sum_cons, List.length_cons]
      have := List.nodup_iff_count.mp nd b
      omega
  have l1 := le (gridL L W)
  have gl : (gridL L W).length = L.toNat * W.toNat := by
    unfold gridL
    rw [cols_len]
  have := Nat.mul_le_mul (show L.toNat ≤ 1000 by omega) (show W.toNat ≤ 1000 by omega)
  omega
inductive SeenI (p l S : Addr) (L W fi se : Int) (ps : List (Addr × Brick)) (H : Hp) (i : Nat) : L2.St → Hp → Prop where
  | mk {H' : Hp} {z u : Option V} {kvs : List (List Key × V)} (sm : Same H H') (hS : H' S = some (.dT kvs)) (hk : kvs.map (·.1) = (allL fi se ((vals ps).take i)).map keyL) (nd : (allL fi se ((vals ps).take i)).Nodup) :
    SeenI p l S L W fi se ps H i [some (.ref p), some (.int L), some (.int W), some (.int fi), some (.int se), some (.ref l), some (.ref S), z, u] H'
inductive SeenJ (p l S o : Addr) (L W fi se : Int) (ps : List (Addr × Brick)) (cs : List (Int × Int)) (H : Hp) (i j : Nat) : L2.St → Hp → Prop where
  | mk {H' : Hp} {u : Option V} {kvs : List (List Key × V)} (sm : Same H H') (hS : H' S = some (.dT kvs)) (hk : kvs.map (·.1) = (allL fi se ((vals ps).take i) ++ cs.take j).map keyL) (nd : (allL fi se ((vals ps).take i) ++ cs.take j).Nodup) :
    SeenJ p l S o L W fi se ps cs H i j [some (.ref p), some (.int L), some (.int W), some (.int fi), some (.int se), some (.ref l), some (.ref S), some (.ref o), u] H'
section
variable {P : Program} {w : World} {K : PySem.W.Frag} {mg : Str → Option Value} {base : Heap}
theorem H_Full_shows (p : PlM K .full "shows" "Full.shows" s_Full_shows) (B : Bi mg) (h_is_beyond : Has P w K mg base CX0 1 "is_beyond" ["length", "width", "first", "second", "brick"] (SpBeyond K)) (h_cells_of : Has P w K mg base CX0 1 "cells_of" ["first", "second", "brick"] (SpCells K)) :
    HasM P w K mg base CX0 2 .full "shows" ["self", "length", "width", "first", "second", "bricks"] (SpShows5 K .full) := by
  refine p.mk0 sc_Full_shows (fun _ _ _ _ _ _ us hl => match us, hl with | [_, _, _, _, _, _], _ => rfl) (fun vs H Q E h => ?_) (fun f cdv A outer s H vs Q E hr h => ?_)
  · cases h; rfl
  · obtain @⟨p, l, d, ps, L, W, fi, se, _, _, _, ha, hx, hL, hW, hf, hs, hl, hb, hn, q⟩ := h
    refine ⟨_, (pss_cons (ps_if (pt_val (pe_callB (cr_any rfl) (by rfl) B.any (by decide +kernel) (pa_cons (pe_lc (own := [("brick", 7)]) (by rfl) sc_Full_shows.nd (pi_list (pv 5)) (blkOk_by (own := [("brick", 7)]) (N := ["self", "length", "width", "first", "second", "bricks", "seen", "brick", "cell"]) (sc := defScope s_Full_shows) (by decide +kernel)) (fun _ _ _ _ _ => (pg_name (i := 7) sc_Full_shows.nd rfl (Or.inl rfl))) (fun _ _ _ _ _ => pts_nil) (fun _ _ _ _ _ => (pe_fn h_is_beyond (hr.mono (by decide)) pass0 (pa_cons (pv 1) (pa_cons (pv 2) (pa_cons (pv 3) (pa_cons (pv 4) (pa_cons (pv 7) pa_nil)))))))) pa_nil))) (pss_one (ps_ret pe_bl)) pss_nil)
      (pss_cons (ps_set (i := 6) sc_Full_shows.nd rfl (Or.inl rfl) pe_dnewT)
      (pss_cons (ps_for PassesOwn.never (by rfl) (pi_list (pv 5)) (pg_name (i := 7) sc_Full_shows.nd rfl (Or.inl rfl)) (pss_one (ps_for PassesOwn.never (by rfl) (pi_list (pe_fn h_cells_of (hr.mono (by decide)) pass0 (pa_cons (pv 3) (pa_cons (pv 4) (pa_cons (pv 7) pa_nil))))) (pg_name (i := 8) sc_Full_shows.nd rfl (Or.inl rfl)) (pss_cons (ps_if (pt_cmp (pc_din (hu_of hr) (pv 8) (pv 6))) (pss_one (ps_ret pe_bl)) pss_nil)
      (pss_one (ps_dput (hu_of hr) (pv 6) (pv 8) pe_bl rfl))))))
      (pss_one (ps_ret (pe_cmpR op_eq (pe_callB call_len_dT (by rfl) B.len PySem.boot_len (pa_cons (pv 6) pa_nil)) (pe_op op_mulX (pv 1) (pv 2)) (nomark _))))))), ?_⟩
    cases ha with
    | beyond h => cases hx
    | twice h ht => cases hx
    | bare h ht => cases hx
    | full h =>
      clear h hx
      have q : ∀ H', Same H H' → Q (.bl (fullB L W fi se (vals ps))) H' := q
      refine ⟨_, rfl, l, rfl, ⟨_, hl⟩, fun D hD => ?_⟩
      refine lc_list (K := K) (a := l) (xs := refs ps) (fun i H' => Same H H' ∧ H' D = some (.lst ((((vals ps).take i).map (beyB L W fi se)).map V.bl))) ⟨same_upd hD, upd_same⟩ (fun i H' _ ⟨sm, _⟩ => sm.seq hl) ?_ ?_
      · rintro i v H' hi ⟨sm, eD⟩
        obtain ⟨pb, hpb, rfl, hm⟩ := refs_at hi
        have hlt : i < ps.length := (List.getElem?_eq_some_iff.mp hpb).1
        have et : (vals ps).take (i + 1) = (vals ps).take i ++ [pb.2] := by
          unfold vals
          rw [List.take_add_one, List.getElem?_map, hpb]
          rfl
        refine ⟨rfl, lc_yes ?_⟩
        walk_at "rd"
        refine .mk (Same.tup sm (hb pb hm)) fun H2 sm2 => ⟨_, sm2 _ _ eD, ?_, ?_, ?_⟩
        · rw [List.length_map, List.length_map, List.length_take, vals_len]
          exact Nat.lt_of_le_of_lt (Nat.min_le_right _ _) (Nat.lt_of_le_of_lt hn (by decide))
        · exact fun b1 o e => by rw [upd_ne (ne_of_none e hD)]; exact sm2 _ _ (sm b1 o e)
        · rw [upd_same, et, List.map_append, List.map_append]
          rfl
      · rintro H1 ⟨sm1, eD⟩
        rw [refs_len, ← vals_len ps, List.take_length] at eD
        refine ⟨D, _, rfl, sqL eD, ?_⟩
        have ea : ((vals ps).map (beyB L W fi se)).any id = (vals ps).any (beyB L W fi se) := by
          rw [List.any_map]
          rfl
        rw [ea]
        refine ⟨_, rfl, iteB (fun c => ?_) (fun c => ?_)⟩
        · have e : fullB L W fi se (vals ps) = false := by
            unfold fullB
            rw [c]
            rfl
          rw [e] at q
          exact q _ sm1
        have hnb : ∀ b ∈ vals ps, beyB L W fi se b = false := fun b hbm => by
          have := List.any_eq_false.mp c b hbm
          exact Bool.eq_false_iff.mpr this
        have fe := fullB_eq hL.1 hW.1 hf hs hnb
        intro S hS
        have inG : ∀ i c, c ∈ allL fi se ((vals ps).take i) → cellB L W c = true := fun i c hc => by
          obtain ⟨b, hbm, hcb⟩ := List.mem_flatMap.mp hc
          exact cov_cell (hnb b (List.mem_of_mem_take hbm)) (mem_cells hf hs hcb)
        refine ⟨_, rfl, l, rfl, ⟨_, (same_upd hS).seq (sm1.seq hl)⟩, for_list (K := K) (a := l) (xs := refs ps) (fun i σ H' => SeenI p l S L W fi se ps H1 i σ H') (.mk (kvs := []) (same_upd hS) upd_same rfl List.Pairwise.nil) ?_ ?_ ?_⟩
        · rintro _ _ _ _ ⟨sm⟩
          exact sm.seq (sm1.seq hl)
        · rintro i v _ H2 hi @⟨_, _, _, kvs, sm2, eS, hk, nd⟩
          obtain ⟨pb, hpb, rfl, hm⟩ := refs_at hi
          have hbv : pb.2 ∈ vals ps := List.mem_map_of_mem hm
          have nb := hnb _ hbv
          have lim : pb.2.lo fi se ≤ 1000 ∧ pb.2.hi fi se ≤ 1000 := by
            unfold beyB at nb
            simp only [Bool.or_eq_false_iff, decide_eq_false_iff_not] at nb
            omega
          have lo0 : 0 < pb.2.lo fi se := by unfold Brick.lo; split <;> omega
          have hi0 : 0 < pb.2.hi fi se := by unfold Brick.hi; split <;> omega
          walk_at "rd"
          refine .mk (Same.tup (sm1.trans sm2) (hb pb hm)) ⟨by omega, lim.1⟩ ⟨by omega, lim.2⟩ fun C H3 cs sm3 eC hcs vcs => ?_
          have eS3 := sm3 _ _ eS
          have nSC : C ≠ S := ne_of eC eS3 (by intro z; cases z)
          refine ⟨C, rfl, ⟨_, sqL eC⟩, for_list (K := K) (a := C) (xs := refs cs) (fun j σ H' => SeenJ p l S pb.1 L W fi se ps (cellsL fi se pb.2) H1 i j σ H' ∧ H' C = some (.lst (refs cs)) ∧ CeAll H' cs) ⟨.mk (kvs := kvs) (sm2.trans sm3) eS3 (by rw [List.take_zero, List.append_nil]; exact hk) (by rw [List.take_zero, List.append_nil]; exact nd), eC, hcs⟩ ?_ ?_ ?_⟩
          · rintro _ _ _ _ ⟨_, e, _⟩
            exact sqL e
          · rintro j v _ H4 hj ⟨@⟨_, _, kvs4, sm4, eS4, hk4, nd4⟩, eC4, hcs4⟩
            obtain ⟨pc, hpc, rfl, hmc⟩ := refs_at hj
            have ec := hcs4 pc hmc
            have ecl : (cellsL fi se pb.2)[j]? = some pc.2 := by
              rw [← vcs]
              unfold vals
              rw [List.getElem?_map, hpc]
              rfl
            have ecol : cellB L W pc.2 = true := cov_cell nb (mem_cells hf hs (List.mem_of_getElem? ecl))
            have tk : (cellsL fi se pb.2).take (j + 1) = (cellsL fi se pb.2).take j ++ [pc.2] := by
              rw [List.take_add_one, ecl]
              rfl
            have fk := find_key hk4 pc.2
            walk_at "rd"
            refine ⟨S, _, rfl, DGet.t (k := keyL pc.2) eS4 ec, _, rfl, iteB (fun c4 => ?_) (fun c4 => ?_)⟩
            · -- twice
              have mem := fk.mp c4
              have e : fullB L W fi se (vals ps) = false := by
                apply Bool.eq_false_iff.mpr
                intro z
                have nda := (fe.mp z).1
                obtain ⟨r, er⟩ := all_split (f := fi) (s := se) hpb
                rw [er] at nda
                have e3 : cellsL fi se pb.2 = (cellsL fi se pb.2).take j ++ pc.2 :: (cellsL fi se pb.2).drop (j + 1) := by
                  have hlt := (List.getElem?_eq_some_iff.mp ecl).1
                  have h5 : (cellsL fi se pb.2)[j] = pc.2 := (List.getElem?_eq_some_iff.mp ecl).2
                  rw [← h5, ← List.drop_eq_getElem_cons hlt, List.take_append_drop]
                rw [e3, List.append_assoc, ← List.append_assoc] at nda
                have dj := (List.nodup_append.mp nda).2.2 pc.2 mem pc.2 (by simp)
                exact dj rfl
              rw [e] at q
              exact q _ (sm1.trans sm4)
            · have nmem : pc.2 ∉ allL fi se ((vals ps).take i) ++ (cellsL fi se pb.2).take j := fun z => by
                rw [fk.mpr z] at c4
                cases c4
              have nd5 : (allL fi se ((vals ps).take i) ++ (cellsL fi se pb.2).take (j + 1)).Nodup := by
                rw [tk, ← List.append_assoc]
                exact List.nodup_append.mpr ⟨nd4, by simp, fun a ha b hb2 e => by
                  rw [List.mem_singleton] at hb2
                  rw [e, hb2] at ha
                  exact nmem ha⟩
              have small : kvs4.length < sizeLine := by
                rw [keys_len hk4]
                refine Nat.lt_of_le_of_lt (nodup_len (L := L) (W := W) (by omega) (by omega) nd4 fun c hc => ?_) (by decide)
                rcases List.mem_append.mp hc with z | z
                · exact inG i c z
                · exact cov_cell nb (mem_cells hf hs (List.mem_of_mem_take z))
              walk_at "rd"
              have nCS : C ≠ S := ne_of eC4 eS4 (by intro z; cases z)
              refine ⟨S, _, rfl, DPut.t (k := keyL pc.2) eS4 ec small, .mk (kvs := putK kvs4 (keyL pc.2) (.bl true)) ?_ upd_same ?_ nd5, ?_, ?_⟩
              · exact fun b1 o e => by rw [upd_ne (ne_of_none e hS)]; exact sm4 b1 o e
              · rw [put_key hk4 nmem, tk, List.append_assoc]
              · rw [upd_ne nCS]
                exact eC4
              · exact fun z hz => by
                  have hz2 := hcs4 z hz
                  have nz : z.1 ≠ S := ne_of hz2 eS4 (by intro z; cases z)
                  rw [upd_ne nz]
                  exact hz2
          · rintro _ H4 ⟨@⟨_, _, kvs4, sm4, eS4, hk4, nd4⟩, _, _⟩
            have el : (cellsL fi se pb.2).take (refs cs).length = cellsL fi se pb.2 := by
              rw [refs_len, ← vals_len, vcs, List.take_length]
            rw [el] at hk4 nd4
            exact .mk (kvs := kvs4) sm4 eS4 (by rw [all_take hpb]; exact hk4) (by rw [all_take hpb]; exact nd4)
        · rintro _ H2 @⟨_, _, _, kvs, sm2, eS, hk, nd⟩
          rw [refs_len, ← vals_len ps, List.take_length] at hk nd
          refine ⟨_, rfl, S, kvs, rfl, eS, ?_⟩
          have bL : Bn 20 L := bnl (by omega)
          have bW : Bn 20 W := bnl (by omega)
          walk_at "rd"
          have e : decide (V.int ((kvs.length : Nat) : Int) = V.int (L * W)) = fullB L W fi se (vals ps) := by
            rw [keys_len hk]
            by_cases c : ((allL fi se (vals ps)).length : Int) = L * W
            · rw [fe.mpr ⟨nd, c⟩]
              exact decide_eq_true (congrArg V.int c)
            · rw [Bool.eq_false_iff.mpr fun z => c (fe.mp z).2]
              exact decide_eq_false fun z => c (V.int.inj z)
          show Q (.bl (decide (V.int ((kvs.length : Nat) : Int) = V.int (L * W)))) H2
          rw [e]
          exact q _ (sm1.trans sm2)
theorem H_shows5 (B : Bi mg) (G : ClG K mg) (p1 : PlM K .full "shows" "Full.shows" s_Full_shows) (p2 : PlM K .beyond "shows" "Beyond.shows" s_Beyond_shows) (p3 : PlM K .twice "shows" "Twice.shows" s_Twice_shows) (p4 : PlM K .bare "shows" "Bare.shows" s_Bare_shows)
    (h_is_beyond : Has P w K mg base CX0 1 "is_beyond" ["length", "width", "first", "second", "brick"] (SpBeyond K)) (h_cells_of : Has P w K mg base CX0 1 "cells_of" ["first", "second", "brick"] (SpCells K))
    (h_is_cell : Has P w K mg base CX0 2 "is_cell" ["length", "width", "thing"] SpIsCell) (h_often : Has P w K mg base CX0 2 "often" ["first", "second", "bricks", "cell"] (SpOften K)) :
    ∀ x, Ok5 x → HasM P w K mg base CX0 3 x "shows" ["self", "length", "width", "first", "second", "bricks"] (SpShows5 K x) := by
  intro x hx
  have e : x = .full ∨ x = .beyond ∨ x = .twice ∨ x = .bare := by simpa [Ok5] using hx
  rcases e with rfl | rfl | rfl | rfl
  · exact (H_Full_shows p1 B h_is_beyond h_cells_of).mono (by decide)
  · exact (H_Beyond_shows p2 B G h_is_beyond).mono (by decide)
  · exact H_Twice_shows p3 G h_is_cell h_often
  · exact H_Bare_shows p4 G h_is_cell h_often
end
end BF

/-! ### lists of bricks -/
namespace BF
open PySem PySem.Spec PyProof.Rows L2
/-- a loop over enumerate(list) -/
theorem for_enumL {K : PySem.W.Frag} {a : Addr} {xs : List V} {g : TG} {tb : TS} {D : Ends} {σ : L2.St} {H : Hp} (Pv : Nat → L2.St → Hp → Prop) (h0 : Pv 0 σ H) (hl : ∀ i σ H, i ≤ xs.length → Pv i σ H → SqL K H a xs)
    (hs : ∀ i x T σ H, xs[i]? = some x → Pv i σ H → H T = none → g (.ref T) σ (upd H T (.tup [.int (i : Nat), x])) fun σ2 H2 => tb { D with nx := Pv (i + 1), ct := Pv (i + 1), bk := D.nx } σ2 H2) (hd : ∀ σ H, Pv xs.length σ H → D.nx σ H) :
    ∃ W : Nat → Nat → L2.St → Hp → Prop, (∃ m, W 0 m σ H) ∧ ∀ i m σ H, W i m σ H →
      ((Ite K a).stop i H ∧ D.nx σ H) ∨ ((Ite K a).go i H ∧ ∃ N : L2.St → Hp → Prop, (∀ σ' H', N σ' H' → ∃ m', m' < m ∧ W (i + 1) m' σ' H') ∧ ∀ x H', (Ite K a).yld i H x H' → g x σ H' fun σ2 H2 => tb { D with nx := N, ct := N, bk := D.nx } σ2 H2) := by
  refine ⟨fun i m σ H => m = xs.length - i ∧ i ≤ xs.length ∧ Pv i σ H, ⟨_, rfl, Nat.zero_le _, h0⟩, ?_⟩
  rintro i m σ H ⟨rfl, hi, p⟩
  have sq := hl i σ H hi p
  by_cases c : i < xs.length
  · refine .inr ⟨⟨xs, xs[i], sq, by simp [c]⟩, Pv (i + 1), fun σ' H' p' => ⟨xs.length - (i + 1), by omega, rfl, c, p'⟩, fun x H' y => ?_⟩
    obtain ⟨T, z, rfl, hT, rfl, hx⟩ := y
    exact hs i z T σ H (hx xs sq) p hT
  · have e : i = xs.length := by omega
    subst e
    exact .inl ⟨⟨xs, sq, Nat.le_refl _⟩, hd σ H p⟩
theorem cut_ints2 (ns : List Int) (lo hi : Option Int) : ∃ ms : List Int, cutV (ns.map V.int) lo hi = ms.map V.int ∧ (∀ z ∈ ms, z ∈ ns) ∧ ms.length ≤ ns.length := by
  unfold cutV
  refine ⟨_, cut_map V.int ns _ _, fun z hz => List.mem_of_mem_drop (List.mem_of_mem_take hz), ?_⟩
  rw [List.length_take, List.length_drop]
  omega
def BrT (H : Hp) (ps : List (Addr × Brick)) : Prop := ∀ p ∈ ps, H p.1 = some (.tup p.2.vs)
theorem BrT.mono {H H' : Hp} {ps : List (Addr × Brick)} (h : BrT H ps) (sm : Same H H') : BrT H' ps := fun p hp => sm _ _ (h p hp)
theorem BrT.all {K : PySem.W.Frag} {H : Hp} {ps : List (Addr × Brick)} (h : BrT H ps) : BrAll K H ps := fun p hp => sqT (h p hp)
theorem BrT.app {H : Hp} {a b : List (Addr × Brick)} (h : BrT H a) (k : BrT H b) : BrT H (a ++ b) := fun p hp => by
  rcases List.mem_append.mp hp with z | z
  · exact h p z
  · exact k p z
theorem BrT.one {H : Hp} {p : Addr} {b : Brick} (h : H p = some (.tup b.vs)) : BrT H [(p, b)] := fun q hq => by
  obtain rfl := List.mem_singleton.mp hq
  exact h
theorem BrT.sub {H : Hp} {a b : List (Addr × Brick)} (h : BrT H a) (k : ∀ p ∈ b, p ∈ a) : BrT H b := fun p hp => h p (k p hp)
/-- a list is changed: bricks stay -/
theorem BrT.lst {H : Hp} {F : Addr} {xs : List V} {o : HO} {ps : List (Addr × Brick)} (h : BrT H ps) (e : H F = some (.lst xs)) : BrT (upd H F o) ps := fun p hp => by
  have z := h p hp
  rw [upd_ne (ne_of z e (by intro z; cases z))]
  exact z
/-- a list that H does not know is changed -/
theorem same_mut {H H' : Hp} {F : Addr} {o : HO} (sm : Same H H') (n : H F = none) : Same H (upd H' F o) := fun b u e => by
  rw [upd_ne (ne_of_none e n)]
  exact sm b u e
/-- a tuple where a list is changed -/
theorem keepT {H : Hp} {F t : Addr} {xs ys : List V} {o : HO} (h : H t = some (.tup xs)) (e : H F = some (.lst ys)) : (upd H F o) t = some (.tup xs) := by
  rw [upd_ne (ne_of h e (by intro z; cases z))]
  exact h
/-- one more brick in a comprehension's list -/
theorem lc_brick {H2 H3 : Hp} {D p4 : Addr} {ds : List (Addr × Brick)} {b : Brick} {j : Nat} (hD : H2 D = none) (sm3 : Same H2 H3) (eD : H3 D = some (.lst (refs ds))) (hds : BrT H3 ds) (hj : ds.length = j) (hp4 : H3 p4 = none) (hn : j < 1000) :
    ∃ acc, (upd H3 p4 (.tup b.vs)) D = some (.lst acc) ∧ acc.length < sizeLine ∧ Same H2 (upd (upd H3 p4 (.tup b.vs)) D (.lst (acc ++ [.ref p4]))) ∧ ∃ es, (upd (upd H3 p4 (.tup b.vs)) D (.lst (acc ++ [.ref p4]))) D = some (.lst (refs es)) ∧ BrT (upd (upd H3 p4 (.tup b.vs)) D (.lst (acc ++ [.ref p4]))) es ∧ es.length = j + 1 := by
  have e4 := same_upd (o := .tup b.vs) hp4 _ _ eD
  refine ⟨refs ds, e4, ?_, same_mut (sm3.trans (same_upd hp4)) hD, ds ++ [(p4, b)], ?_, ?_, ?_⟩
  · rw [refs_len, hj]
    exact Nat.lt_trans hn (by decide)
  · rw [upd_same, refs_app]
    rfl
  · exact ((hds.mono (same_upd hp4)).app (.one upd_same)).lst e4
  · rw [List.length_append, hj]
    rfl
theorem at_refs {ps : List (Addr × Brick)} {k : Int} (h0 : 0 ≤ k) (h1 : k < ps.length) : ∃ pb, pb ∈ ps ∧ ps[k.toNat]? = some pb ∧ atI (refs ps) k = some (.ref pb.1) := by
  obtain ⟨n, rfl⟩ := Int.eq_ofNat_of_zero_le h0
  have hlt : n < ps.length := by omega
  refine ⟨ps[n], List.getElem_mem hlt, by rw [Int.toNat_natCast]; exact List.getElem?_eq_getElem hlt, atI_nat ?_⟩
  unfold refs
  rw [List.getElem?_map, List.getElem?_eq_getElem hlt]
  rfl
theorem erase_refs {α : Type} : ∀ (ps : List (Addr × α)) (n : Nat), (refs ps).eraseIdx n = refs (ps.eraseIdx n)
  | [], _ => rfl
  | _ :: _, 0 => rfl
  | p :: ps, n + 1 => by
    show V.ref p.1 :: (refs ps).eraseIdx n = V.ref p.1 :: refs (ps.eraseIdx n)
    rw [erase_refs ps n]
theorem seq_ix {n k : Nat} (h : k < n) : seqIndex? (k : Int) n = some k := by
  unfold seqIndex?
  simp
  omega
end BF

/-! ### judging.py -/
namespace BF
open PySem PySem.Spec PyProof.Rows L2
inductive SpIsBrick : Sp where
  | mk {o : Addr} {b : Brick} {H : Hp} {Q : VK} {E : XK} (ho : H o = some (.tup b.vs)) (q : Q (.bl true) H) : SpIsBrick [.ref o] H Q E
/-- an answer that is as told -/
def IsJ (L W f s : Int) (bs : List Brick) : D5 → Prop
  | .beyond i => beyAt L W f s bs i = true
  | .bare c => bs.any (beyB L W f s) = false ∧ cellB L W c = true ∧ oftN f s bs c = 0
  | .twice c => bs.any (beyB L W f s) = false ∧ cellB L W c = true ∧ 1 < oftN f s bs c
  | .full => bs.any (beyB L W f s) = false ∧ ∀ c, cellB L W c = true → oftN f s bs c = 1
theorem IsJ.due {L W f s : Int} {bs : List Brick} {d : D5} (hL : 0 < L) (hW : 0 < W) (h : IsJ L W f s bs d) : due5 L W f s bs d = true := by
  cases d with
  | beyond i => exact h
  | bare c =>
    show (cellB L W c && decide (oftN f s bs c = 0)) = true
    rw [h.2.1, decide_eq_true h.2.2]
    rfl
  | twice c =>
    show (cellB L W c && decide (1 < oftN f s bs c)) = true
    rw [h.2.1, decide_eq_true h.2.2]
    rfl
  | full =>
    show (!(bs.any (beyB L W f s)) && (gridL L W).all fun c => decide (oftN f s bs c = 1)) = true
    rw [h.1]
    show (gridL L W).all (fun c => decide (oftN f s bs c = 1)) = true
    rw [List.all_eq_true]
    intro c hc
    exact decide_eq_true (h.2 c ((mem_grid (by omega) (by omega)).mp hc))
theorem beyAt_any {L W f s : Int} {bs : List Brick} {i : Int} (h : beyAt L W f s bs i = true) : bs.any (beyB L W f s) = true := by
  unfold beyAt at h
  rw [Bool.and_eq_true] at h
  cases e : bs[i.toNat]? with
  | none => rw [e] at h; exact nomatch h.2
  | some b =>
    rw [e] at h
    exact List.any_eq_true.mpr ⟨b, List.mem_of_getElem? e, h.2⟩
theorem IsJ.full {L W f s : Int} {bs : List Brick} {d : D5} (hL : 0 < L) (hW : 0 < W) (h : IsJ L W f s bs d) : decide (d.cl = .full) = fullB L W f s bs := by
  cases d with
  | beyond i =>
    have e : fullB L W f s bs = false := by
      unfold fullB
      rw [beyAt_any h]
      rfl
    rw [e]
    rfl
  | bare c =>
    have e : fullB L W f s bs = false := by
      apply Bool.eq_false_iff.mpr
      intro z
      unfold fullB at z
      rw [Bool.and_eq_true] at z
      have := of_decide_eq_true (List.all_eq_true.mp z.2 c ((mem_grid (by omega) (by omega)).mpr h.2.1))
      have := h.2.2
      omega
    rw [e]
    rfl
  | twice c =>
    have e : fullB L W f s bs = false := by
      apply Bool.eq_false_iff.mpr
      intro z
      unfold fullB at z
      rw [Bool.and_eq_true] at z
      have := of_decide_eq_true (List.all_eq_true.mp z.2 c ((mem_grid (by omega) (by omega)).mpr h.2.1))
      have := h.2.2
      omega
    rw [e]
    rfl
  | full => exact (show fullB L W f s bs = true from h.due (d := .full) hL hW).symm
inductive SpJudged (K : PySem.W.Frag) : Sp where
  | mk {l : Addr} {ps : List (Addr × Brick)} {L W f s : Int} {H : Hp} {Q : VK} {E : XK} (hL : 0 < L) (hW : 0 < W) (hm : L * W ≤ 400) (hf : 0 < f) (hs : 0 < s) (el : H l = some (.lst (refs ps))) (hb : BrT H ps) (hn : ps.length ≤ 1000)
      (q : ∀ p H' d, Same H H' → At5 K H' p d → IsJ L W f s (vals ps) d → Q (.ref p) H') : SpJudged K [.int L, .int W, .int f, .int s, .ref l] H Q E
inductive JuI (l : Addr) (L W f s : Int) (bs : List Brick) (H : Hp) (i : Nat) : L2.St → Hp → Prop where
  | mk {H' : Hp} {y5 y6 : Option V} (sm : Same H H') (h : ∀ b ∈ bs.take i, beyB L W f s b = false) : JuI l L W f s bs H i [some (.int L), some (.int W), some (.int f), some (.int s), some (.ref l), y5, y6, none, none, none] H'
inductive JuA (l : Addr) (L W f s : Int) (bs : List Brick) (H : Hp) (i : Nat) : L2.St → Hp → Prop where
  | mk {H' : Hp} {y5 y6 y7 y8 y9 : Option V} (sm : Same H H') (h : ∀ x y : Int, 0 ≤ x → x < i → 0 ≤ y → y < W → oftN f s bs (x, y) = 1) : JuA l L W f s bs H i [some (.int L), some (.int W), some (.int f), some (.int s), some (.ref l), y5, y6, y7, y8, y9] H'
inductive JuB (l : Addr) (L W f s : Int) (bs : List Brick) (H : Hp) (x : Int) (j : Nat) : L2.St → Hp → Prop where
  | mk {H' : Hp} {y5 y6 y8 y9 : Option V} (sm : Same H H') (h : ∀ y : Int, 0 ≤ y → y < j → oftN f s bs (x, y) = 1) : JuB l L W f s bs H x j [some (.int L), some (.int W), some (.int f), some (.int s), some (.ref l), y5, y6, some (.int x), y8, y9] H'
section
variable {P : Program} {w : World} {K : PySem.W.Frag} {mg : Str → Option Value} {base : Heap}
theorem H_is_brick (p : Pl K mg "is_brick" s_is_brick) (B : Bi mg) (h_is_number : Has P w K mg base CX0 1 "is_number" ["thing"] (SpIsNumber K)) : Has P w K mg base CX0 2 "is_brick" ["thing"] SpIsBrick := by
  refine p.mk0 sc_is_brick (fun _ _ _ _ _ _ us hl => match us, hl with | [_], _ => rfl) (fun vs H Q E h => ?_) (fun f cdv A outer s H vs Q E hr h => ?_)
  · cases h; rfl
  · obtain @⟨o, ⟨x, y, l⟩, _, _, _, ho, q⟩ := h
    refine ⟨_, (pss_cons (ps_if (PW.pt (pw_or (pt_not (pt_val (pe_callB (r := rIsi K) call_isi (by rfl) B.isinstance (by decide +kernel) (pa_cons (pv 0) (pa_cons (pe_bltn (v := .ty "tuple") (by rfl) B.tuple (by decide +kernel) rfl) pa_nil))))) (pw_or (pt_cmpR op_ne (pe_callB (r := rLen2 K) call_len_seq (by rfl) B.len PySem.boot_len (pa_cons (pv 0) pa_nil)) pe_int (nomark _)) (pw_or1 (pt_not (pt_val (pe_callB (r := rIsi K) call_isi (by rfl) B.isinstance (by decide +kernel) (pa_cons (pe_ix (r := rIxT K) ix_tup (pv 0) pe_int (fun _ _ => rfl)) (pa_cons (pe_bltn (v := .ty "bool") (by rfl) B.bool (by decide +kernel) rfl) pa_nil))))))))) (pss_one (ps_ret pe_bl)) pss_nil)
      (pss_one (ps_ret (pe_and (pe_fn h_is_number (hr.mono (by decide)) pass0 (pa_cons (pe_ix (r := rIxT K) ix_tup (pv 0) pe_int (fun _ _ => rfl)) pa_nil)) (pe_one (pe_fn h_is_number (hr.mono (by decide)) pass0 (pa_cons (pe_ix (r := rIxT K) ix_tup (pv 0) pe_int (fun _ _ => rfl)) pa_nil))))))), ?_⟩
    refine ⟨_, rfl, _, _, _, _, true, rfl, .ty "tuple", .base (.tup ho), kit_ty (by decide +kernel), true, rfl, iteF ?_⟩
    refine ⟨_, rfl, o, _, rfl, .inr (sqT ho), rfl, _, rfl, iteNe (fun z => absurd rfl z) (fun _ => ?_)⟩
    refine ⟨_, rfl, o, _, 2, _, rfl, rfl, sqT ho, rfl, _, _, _, _, true, rfl, .ty "bool", .base (.bl l), kit_ty (by decide +kernel), true, rfl, iteF ?_⟩
    refine ⟨_, rfl, o, _, 0, _, rfl, rfl, sqT ho, rfl, num_int ⟨true, rfl, iteT ?_⟩⟩
    exact ⟨_, rfl, o, _, 1, _, rfl, rfl, sqT ho, rfl, num_int q⟩
theorem H_judged (p : Pl K mg "judged" s_judged) (B : Bi mg) (G : ClG K mg) (CI : ClI P w K mg base) (M_MOST : ∃ t, mg "MOST" = some (.int 400 t)) (h_check_sizes : Has P w K mg base CX0 2 "check_sizes" ["some"] (SpCheckSizes K)) (h_is_brick : Has P w K mg base CX0 2 "is_brick" ["thing"] SpIsBrick)
    (h_is_beyond : Has P w K mg base CX0 1 "is_beyond" ["length", "width", "first", "second", "brick"] (SpBeyond K)) (h_often : Has P w K mg base CX0 2 "often" ["first", "second", "bricks", "cell"] (SpOften K)) : Has P w K mg base CX0 3 "judged" ["length", "width", "first", "second", "bricks"] (SpJudged K) := by
  refine p.mk0 sc_judged (fun _ _ _ _ _ _ us hl => match us, hl with | [_, _, _, _, _], _ => rfl) (fun vs H Q E h => ?_) (fun f cdv A outer s H vs Q E hr h => ?_)
  · cases h; rfl
  · obtain @⟨l, ps, L, W, fi, se, _, _, _, hL, hW, hm, hf, hs, el, hb, hn, q⟩ := h
    refine ⟨_, (pss_cons (ps_expr (pe_fn h_check_sizes (hr.mono (by decide)) pass0 (pa_cons (pe_lst (pa_cons (pv 0) (pa_cons (pv 1) (pa_cons (pv 2) (pa_cons (pv 3) pa_nil))))) pa_nil)))
      (pss_cons (ps_if (pt_cmpR op_gt (pe_op op_mulX (pv 0) (pv 1)) (pe_const (by rfl) M_MOST) (nomark _)) (pss_one ps_never) pss_nil)
      (pss_cons (ps_if (PW.pt (pw_or (pt_not (pt_val (pe_callB (r := rIsi K) call_isi (by rfl) B.isinstance (by decide +kernel) (pa_cons (pv 4) (pa_cons (pe_bltn (v := .ty "list") (by rfl) B.list (by decide +kernel) rfl) pa_nil))))) (pw_or1 (pt_not (pt_val (pe_callB (cr_all rfl) (by rfl) B.all (by decide +kernel) (pa_cons (pe_lc (own := [("brick", 6)]) (by rfl) sc_judged.nd (pi_list (pv 4)) (blkOk_by (own := [("brick", 6)]) (N := ["length", "width", "first", "second", "bricks", "count", "brick", "along", "up", "many"]) (sc := defScope s_judged) (by decide +kernel)) (fun _ _ _ _ _ => (pg_name (i := 6) sc_judged.nd rfl (Or.inl rfl))) (fun _ _ _ _ _ => pts_nil) (fun _ _ _ _ _ => (pe_fn h_is_brick (hr.mono (by decide)) pass0 (pa_cons (pv 6) pa_nil)))) pa_nil))))))) (pss_one ps_never) pss_nil)
      (pss_cons (ps_for PassesOwn.never (by rfl) (pi_enum (by rfl) B.enumerate (pa_cons (pv 4) pa_nil)) (pg_tup (by rfl) (pgs_cons (pg_name (i := 5) sc_judged.nd rfl (Or.inl rfl)) (pgs_cons (pg_name (i := 6) sc_judged.nd rfl (Or.inl rfl)) pgs_nil))) (pss_one (ps_if (pt_val (pe_fn h_is_beyond (hr.mono (by decide)) pass0 (pa_cons (pv 0) (pa_cons (pv 1) (pa_cons (pv 2) (pa_cons (pv 3) (pa_cons (pv 6) pa_nil))))))) (pss_one (ps_ret (pe_mkI (x := .beyond) CI G (by decide) trivial (hr.mono (by decide)) (pa_cons (pv 5) pa_nil)))) pss_nil)))
      (pss_cons (ps_for PassesOwn.never (by rfl) (pi_range1 (by rfl) B.range (pa_cons (pv 0) pa_nil)) (pg_name (i := 7) sc_judged.nd rfl (Or.inl rfl)) (pss_one (ps_for PassesOwn.never (by rfl) (pi_range1 (by rfl) B.range (pa_cons (pv 1) pa_nil)) (pg_name (i := 8) sc_judged.nd rfl (Or.inl rfl)) (pss_cons (ps_set (i := 9) sc_judged.nd rfl (Or.inl rfl) (pe_fn h_often (hr.mono (by decide)) pass0 (pa_cons (pv 2) (pa_cons (pv 3) (pa_cons (pv 4) (pa_cons (pe_tup (pa_cons (pv 7) (pa_cons (pv 8) pa_nil))) pa_nil))))))
      (pss_one (ps_if (pt_cmpR op_ne (pv 9) pe_int (nomark _)) (pss_one (ps_ret (pe_ifExp (pt_cmpR op_eq (pv 9) pe_int (nomark _)) (pe_mkI (x := .bare) CI G (by decide) trivial (hr.mono (by decide)) (pa_cons (pe_tup (pa_cons (pv 7) (pa_cons (pv 8) pa_nil))) pa_nil)) (pe_mkI (x := .twice) CI G (by decide) trivial (hr.mono (by decide)) (pa_cons (pe_tup (pa_cons (pv 7) (pa_cons (pv 8) pa_nil))) pa_nil))))) pss_nil))))))
      (pss_one (ps_ret (pe_mkN (x := .full) CI G (by decide) (by decide))))))))), ?_⟩
    have hL2 : L ≤ 400 := by
      have := Int.mul_le_mul_of_nonneg_left (show (1 : Int) ≤ W by omega) (show 0 ≤ L by omega)
      omega
    have hW2 : W ≤ 400 := by
      have := Int.mul_le_mul_of_nonneg_right (show (1 : Int) ≤ L by omega) (show 0 ≤ W by omega)
      omega
    have bL : Bn 20 L := bnl (by omega)
    have bW : Bn 20 W := bnl (by omega)
    walk_at "rd"
    intro l1 hl1
    generalize hH1 : upd H l1 _ = H1
    obtain ⟨sm1, up1⟩ : Same H H1 ∧ H1 l1 = some (.lst ([L, W, fi, se].map V.int)) := newH hH1 hl1
    clear hH1
    refine .mk (ns := [L, W, fi, se]) (sqL up1) ?_ ?_
    · intro n hn
      have e : n = L ∨ n = W ∨ n = fi ∨ n = se := by simpa using hn
      rcases e with rfl | rfl | rfl | rfl
      · exact hL
      · exact hW
      · exact hf
      · exact hs
    walk_at "rd"
    refine iteN (show ¬ (400 : Int) < L * W by omega) ?_
    have el1 := sm1 _ _ el
    have hb1 := hb.mono sm1
    refine ⟨_, rfl, _, _, _, _, true, rfl, .ty "list", .base (.lst el1), kit_ty (by decide +kernel), true, rfl, iteF ?_⟩
    refine ⟨_, rfl, l, rfl, ⟨_, sqL el1⟩, fun D hD => ?_⟩
    refine lc_list (K := K) (a := l) (xs := refs ps) (fun i H' => Same H1 H' ∧ H' D = some (.lst ((List.replicate i true).map V.bl))) ⟨same_upd hD, upd_same⟩ (fun i H' _ ⟨sm, _⟩ => sqL (sm _ _ el1)) ?_ ?_
    · rintro i v H' hi ⟨sm, eD⟩
      obtain ⟨pb, hpb, rfl, hmm⟩ := refs_at hi
      have hlt := (List.getElem?_eq_some_iff.mp hpb).1
      refine ⟨rfl, lc_yes ?_⟩
      walk_at "rd"
      refine .mk (sm _ _ (hb1 _ hmm)) ⟨_, eD, ?_, same_mut sm hD, ?_⟩
      · rw [List.length_map, List.length_replicate]
        exact Nat.lt_of_lt_of_le hlt (Nat.le_trans hn (by decide))
      · rw [upd_same, List.replicate_succ', List.map_append]
        rfl
    rintro H2 ⟨sm2, eD⟩
    refine ⟨D, _, rfl, sqL eD, ?_⟩
    have ea : (List.replicate (refs ps).length true).all id = true := by
      rw [List.all_eq_true]
      intro x hx
      exact (List.mem_replicate.mp hx).2
    rw [ea]
    refine ⟨_, rfl, iteF ?_⟩
    have s02 : Same H H2 := sm1.trans sm2
    have el2 := s02 _ _ el
    refine ⟨_, rfl, l, _, rfl, sqL el2, for_enumL (K := K) (a := l) (xs := refs ps) (fun i σ H' => JuI l L W fi se (vals ps) H2 i σ H') (.mk (Same.refl _) (by simp)) ?_ ?_ ?_⟩
    · rintro _ _ _ _ ⟨sm⟩
      exact sqL (sm _ _ el2)
    · rintro i v T _ H3 hi @⟨_, _, _, sm3, hall⟩ hT
      obtain ⟨pb, hpb, rfl, hmm⟩ := refs_at hi
      have hlt := (List.getElem?_eq_some_iff.mp hpb).1
      generalize hH4 : upd H3 T _ = H4
      obtain ⟨sm4, up4⟩ : Same H3 H4 ∧ H4 T = some (.tup [.int (i : Nat), .ref pb.1]) := newH hH4 hT
      clear hH4
      have s04 := s02.trans (sm3.trans sm4)
      refine ⟨T, _, rfl, sqT up4, rfl, ?_⟩
      walk_at "rd"
      refine .mk (sqT (s04 _ _ (hb _ hmm))) fun H5 sm5 => ⟨_, rfl, iteB (fun c => ?_) (fun c => ?_)⟩
      · refine ⟨_, rfl, _, rfl, fun p1 H6 np1 sm6 ha => ?_⟩
        refine q p1 H6 (.beyond (i : Nat)) (s04.trans (sm5.trans sm6)) (.beyond ha) ?_
        show beyAt L W fi se (vals ps) (i : Nat) = true
        unfold beyAt
        have hv : (vals ps)[((i : Nat) : Int).toNat]? = some pb.2 := by
          unfold vals
          rw [Int.toNat_natCast, List.getElem?_map, hpb]
          rfl
        rw [vals_len, hv, decide_eq_true (by omega), decide_eq_true (by omega)]
        exact c
      · refine .mk (sm3.trans (sm4.trans sm5)) fun b hb2 => ?_
        have et : (vals ps).take (i + 1) = (vals ps).take i ++ [pb.2] := by
          unfold vals
          rw [List.take_add_one, List.getElem?_map, hpb]
          rfl
        rw [et] at hb2
        rcases List.mem_append.mp hb2 with z | z
        · exact hall b z
        · rw [List.mem_singleton.mp z]
          exact c
    rintro _ H3 @⟨_, _, _, sm3, hall⟩
    rw [refs_len, ← vals_len ps, List.take_length] at hall
    have nob : (vals ps).any (beyB L W fi se) = false := by
      rw [List.any_eq_false]
      intro b hbm
      rw [hall b hbm]
      decide
    have s03 := s02.trans sm3
    refine ⟨_, rfl, _, rfl, by omega, by omega, for_range (lo := 0) (n := L.toNat) (fun i σ H' => JuA l L W fi se (vals ps) H3 i σ H') (.mk (Same.refl _) (fun x y h0 h1 => by omega)) ?_ ?_⟩
    · rintro i _ H4 hi @⟨_, _, _, _, _, _, sm4, ha4⟩
      refine ⟨_, rfl, _, rfl, by omega, by omega, for_range (lo := 0) (n := W.toNat) (fun j σ H' => JuB l L W fi se (vals ps) H4 (0 + (i : Int)) j σ H') (.mk (Same.refl _) (fun y h0 h1 => by omega)) ?_ ?_⟩
      · rintro j _ H5 hj @⟨_, _, _, _, _, sm5, hb5⟩
        walk_at "rd"
        intro t6 ht6
        generalize hH6 : upd H5 t6 _ = H6
        obtain ⟨sm6, up6⟩ : Same H5 H6 ∧ H6 t6 = some (.tup (cellV (0 + (i : Int), 0 + (j : Int)))) := newH hH6 ht6
        clear hH6
        have s06 := s03.trans (sm4.trans (sm5.trans sm6))
        refine .mk (c := (0 + (i : Int), 0 + (j : Int))) (sqL (s06 _ _ el)) (hb.mono s06).all (by omega) (sqT up6) fun H7 sm7 => ?_
        have cc : cellB L W (0 + (i : Int), 0 + (j : Int)) = true := by
          unfold cellB
          simp only [Bool.and_eq_true, decide_eq_true_eq]
          omega
        walk_at "rd"
        refine iteNe (fun c => ?_) (fun c => ?_)
        · walk_at "rd"
          refine iteEq (fun d => ?_) (fun d => ?_)
          · walk_at "rd"
            intro t8 ht8
            generalize hH8 : upd H7 t8 _ = H8
            obtain ⟨sm8, up8⟩ : Same H7 H8 ∧ H8 t8 = some (.tup (cellV (0 + (i : Int), 0 + (j : Int)))) := newH hH8 ht8
            clear hH8
            refine ⟨_, rfl, fun p9 H9 np9 sm9 ha9 => ?_⟩
            refine q p9 H9 (.bare (0 + (i : Int), 0 + (j : Int))) (s06.trans (sm7.trans (sm8.trans sm9))) (.bare ha9 (sm9 _ _ up8)) ⟨nob, cc, by omega⟩
          · walk_at "rd"
            intro t8 ht8
            generalize hH8 : upd H7 t8 _ = H8
            obtain ⟨sm8, up8⟩ : Same H7 H8 ∧ H8 t8 = some (.tup (cellV (0 + (i : Int), 0 + (j : Int)))) := newH hH8 ht8
            clear hH8
            refine ⟨_, rfl, fun p9 H9 np9 sm9 ha9 => ?_⟩
            refine q p9 H9 (.twice (0 + (i : Int), 0 + (j : Int))) (s06.trans (sm7.trans (sm8.trans sm9))) (.twice ha9 (sm9 _ _ up8)) ⟨nob, cc, by omega⟩
        · refine .mk (sm5.trans (sm6.trans sm7)) fun y h0 h1 => ?_
          by_cases ey : y = (j : Int)
          · subst ey
            have e0 : (0 : Int) + (j : Int) = j := by omega
            rw [e0] at c
            omega
          · exact hb5 y h0 (by omega)
      · rintro _ H5 @⟨_, _, _, _, _, sm5, hb5⟩
        refine .mk (sm4.trans sm5) fun x y h0 h1 h2 h3 => ?_
        by_cases ex : x = (i : Int)
        · subst ex
          have := hb5 y h2 (by omega)
          rw [show (0 : Int) + (i : Int) = i by omega] at this
          exact this
        · exact ha4 x y h0 (by omega) h2 h3
    · rintro _ H4 @⟨_, _, _, _, _, _, sm4, ha4⟩
      refine fun p9 H9 np9 sm9 ha9 => q p9 H9 .full (s03.trans (sm4.trans sm9)) (.full ha9) ⟨nob, fun c hc => ?_⟩
      obtain ⟨x, y⟩ := c
      unfold cellB at hc
      simp only [Bool.and_eq_true, decide_eq_true_eq] at hc
      exact ha4 x y (by omega) (by omega) (by omega) (by omega)
end
end BF

/-! ### a hundred bricks, one fault -/
namespace BF
def gb (i : Nat) : Brick := ⟨(i : Int) % 20, (i : Int) / 20 * 4, true⟩
def gL : List Brick := (List.range 100).map gb
theorem gL_len : gL.length = 100 := by
  unfold gL
  rw [List.length_map, List.length_range]
theorem gL_at {a : Nat} (h : a < 100) : gL[a]? = some (gb a) := by
  unfold gL
  rw [List.getElem?_map, List.getElem?_range h]
  rfl
theorem gL_full : fullB 20 20 1 4 gL = true := by decide +kernel
theorem gL_in : gL.any (beyB 20 20 1 4) = false := by decide +kernel
theorem gL_one {c : Int × Int} (h : cellB 20 20 c = true) : oftN 1 4 gL c = 1 := by
  have e := gL_full
  unfold fullB at e
  rw [Bool.and_eq_true] at e
  exact of_decide_eq_true (List.all_eq_true.mp e.2 c ((mem_grid (by decide) (by decide)).mpr h))
theorem oft_app (f s : Int) (xs ys : List Brick) (c : Int × Int) : oftN f s (xs ++ ys) c = oftN f s xs c + oftN f s ys c := by
  unfold oftN
  rw [List.filter_append, List.length_append]
theorem oft_sing (f s : Int) (b : Brick) (c : Int × Int) : oftN f s [b] c = if covB f s c b then 1 else 0 := by
  unfold oftN
  rw [List.filter_cons]
  split <;> rfl
theorem split_at {α : Type} {xs : List α} {a : Nat} {x : α} (h : xs[a]? = some x) : xs = xs.take a ++ ([x] ++ xs.drop (a + 1)) := by
  obtain ⟨hl, e⟩ := List.getElem?_eq_some_iff.mp h
  have z := (List.take_append_drop a xs).symm
  rw [List.drop_eq_getElem_cons hl, e] at z
  exact z
theorem oft_gone {f s : Int} {xs : List Brick} {a : Nat} {b : Brick} (h : xs[a]? = some b) (c : Int × Int) : oftN f s (xs.take a ++ xs.drop (a + 1)) c + (if covB f s c b then 1 else 0) = oftN f s xs c := by
  have e : oftN f s xs c = oftN f s (xs.take a ++ ([b] ++ xs.drop (a + 1))) c := congrArg (fun l => oftN f s l c) (split_at h)
  rw [oft_app, oft_app, oft_sing] at e
  rw [oft_app, e]
  omega
theorem gb_cov {a : Nat} {c : Int × Int} : covB 1 4 c (gb a) = true ↔ c.1 = (gb a).x ∧ (gb a).y ≤ c.2 ∧ c.2 < (gb a).y + 4 := by
  unfold covB Brick.lo Brick.hi
  simp only [Bool.and_eq_true, decide_eq_true_eq, show (gb a).l = true from rfl, if_true]
  omega
theorem gb_cell {a : Nat} (h : a < 100) : cellB 20 20 ((gb a).x, (gb a).y) = true := by
  unfold cellB gb
  simp only [Bool.and_eq_true, decide_eq_true_eq]
  omega
theorem gb_self (a : Nat) : covB 1 4 ((gb a).x, (gb a).y) (gb a) = true := gb_cov.mpr ⟨rfl, Int.le_refl _, by omega⟩
theorem any_gone {a : Nat} : (gL.take a ++ gL.drop (a + 1)).any (beyB 20 20 1 4) = false := by
  rw [List.any_eq_false]
  intro b hb
  have e := List.any_eq_false.mp gL_in b
  rcases List.mem_append.mp hb with z | z
  · exact e (List.mem_of_mem_take z)
  · exact e (List.mem_of_mem_drop z)
theorem isj_gone {a : Nat} (h : a < 100) {d : D5} (j : IsJ 20 20 1 4 (gL.take a ++ gL.drop (a + 1)) d) : ∃ c, d = .bare c ∧ cellB 20 20 c = true ∧ covB 1 4 c (gb a) = true := by
  have g := fun c => oft_gone (f := 1) (s := 4) (gL_at h) c
  cases d with
  | beyond i => exact absurd (beyAt_any j) (by rw [any_gone]; decide)
  | full =>
    have z := j.2 _ (gb_cell h)
    have y := g ((gb a).x, (gb a).y)
    rw [gL_one (gb_cell h), if_pos (gb_self a)] at y
    omega
  | twice c =>
    have y := g c
    rw [gL_one j.2.1] at y
    have := j.2.2
    omega
  | bare c =>
    refine ⟨c, rfl, j.2.1, ?_⟩
    have y := g c
    rw [gL_one j.2.1, j.2.2] at y
    cases e : covB 1 4 c (gb a) with
    | true => rfl
    | false => rw [e] at y; exact nomatch y
theorem isj_twice {a : Nat} (h : a < 100) {d : D5} (j : IsJ 20 20 1 4 (gL ++ [gb a]) d) : ∃ c, d = .twice c ∧ cellB 20 20 c = true ∧ covB 1 4 c (gb a) = true := by
  have g : ∀ c, oftN 1 4 (gL ++ [gb a]) c = oftN 1 4 gL c + if covB 1 4 c (gb a) then 1 else 0 := fun c => by rw [oft_app, oft_sing]
  have nb : (gL ++ [gb a]).any (beyB 20 20 1 4) = false := by
    rw [List.any_append, gL_in, Bool.false_or]
    have e := List.any_eq_false.mp gL_in (gb a) (List.mem_of_getElem? (gL_at h))
    simpa using e
  cases d with
  | beyond i => exact absurd (beyAt_any j) (by rw [nb]; decide)
  | full =>
    have z := j.2 _ (gb_cell h)
    rw [g, gL_one (gb_cell h), if_pos (gb_self a)] at z
    exact nomatch z
  | bare c =>
    have z := j.2.2
    rw [g, gL_one j.2.1] at z
    omega
  | twice c =>
    refine ⟨c, rfl, j.2.1, ?_⟩
    have y := j.2.2
    rw [g, gL_one j.2.1] at y
    cases e : covB 1 4 c (gb a) with
    | true => rfl
    | false => rw [e] at y; exact absurd y (by decide)
theorem bey_split {xs ys : List Brick} {b : Brick} {L W f s i : Int} (hx : xs.any (beyB L W f s) = false) (hy : ys.any (beyB L W f s) = false) (h : beyAt L W f s (xs ++ b :: ys) i = true) : i = xs.length := by
  unfold beyAt at h
  simp only [Bool.and_eq_true, decide_eq_true_eq] at h
  obtain ⟨⟨h0, h1⟩, h2⟩ := h
  obtain ⟨n, rfl⟩ := Int.eq_ofNat_of_zero_le h0
  rw [Int.toNat_natCast] at h2
  rcases Nat.lt_trichotomy n xs.length with c | c | c
  · rw [List.getElem?_append_left c, List.getElem?_eq_getElem c] at h2
    exact absurd h2 (List.any_eq_false.mp hx _ (List.getElem_mem c))
  · rw [c]
  · rw [List.getElem?_append_right (by omega)] at h2
    obtain ⟨k, hk⟩ : ∃ k, n - xs.length = k + 1 := ⟨n - xs.length - 1, by omega⟩
    rw [hk, List.getElem?_cons_succ] at h2
    cases e : ys[k]? with
    | none => rw [e] at h2; exact nomatch h2
    | some z =>
      rw [e] at h2
      exact absurd h2 (List.any_eq_false.mp hy _ (List.mem_of_getElem? e))
theorem isj_bey1 {xs ys : List Brick} {b : Brick} {L W f s : Int} {d : D5} (hx : xs.any (beyB L W f s) = false) (hy : ys.any (beyB L W f s) = false) (hb : beyB L W f s b = true) (j : IsJ L W f s (xs ++ b :: ys) d) : d = .beyond xs.length := by
  have an : (xs ++ b :: ys).any (beyB L W f s) = true := by
    rw [List.any_append, List.any_cons, hb, Bool.true_or, Bool.or_true]
  cases d with
  | beyond i => rw [bey_split hx hy j]
  | full => exact absurd j.1 (by rw [an]; decide)
  | bare c => exact absurd j.1 (by rw [an]; decide)
  | twice c => exact absurd j.1 (by rw [an]; decide)
end BF

/-! ### k10: copies, spoiling, laying anew -/
namespace BF
open PySem PySem.Spec PyProof.Rows L2 LamX NdefX
theorem pe_no {X : Cx} {e : Expr} : PE X e (fun _ _ _ => False) := ⟨fun _ _ _ _ _ _ h => h.elim⟩
/-- no list -/
inductive Flat (H : Hp) : V → Prop where
  | bl (b : Bool) : Flat H (.bl b)
  | int (i : Int) : Flat H (.int i)
  | tup {t : Addr} {xs : List V} (h : H t = some (.tup xs)) : Flat H (.ref t)
theorem Flat.mono {H H' : Hp} {v : V} (h : Flat H v) (sm : ∀ b xs, H b = some (.tup xs) → H' b = some (.tup xs)) : Flat H' v := by
  cases h with
  | bl b => exact .bl b
  | int i => exact .int i
  | tup h => exact .tup (sm _ _ h)
theorem Flat.isi {K : PySem.W.Frag} {H : Hp} {v : V} (h : Flat H v) : ∃ T, TyX K H v T ∧ PySem.W.kitOne K T (.type "list") = some false := by
  cases h with
  | bl b => exact ⟨_, .base (.bl b), kit_ty (by decide +kernel)⟩
  | int i => exact ⟨_, .base (.int i), kit_ty (by decide +kernel)⟩
  | tup h => exact ⟨_, .base (.tup h), kit_ty (by decide +kernel)⟩
theorem same_mut2 {H H' : Hp} {F : Addr} {o : HO} (sm : Same H H') (n : H F = none) : Same H (upd H' F o) := fun b u e => by
  rw [upd_ne (ne_of_none e n)]
  exact sm b u e
theorem tyL {K : PySem.W.Frag} {H : Hp} {l : Addr} {xs : List V} (h : H l = some (.lst xs)) : tyV K "list" (.ref l) H := .inl ⟨rfl, xs, sqL h⟩
theorem size3 {n : Nat} (h : n ≤ 1000) : n < sizeLine := Nat.lt_of_le_of_lt h (by decide)
theorem take_push {xs : List V} {j : Nat} {x : V} (hj : xs[j]? = some x) : xs.take j ++ [x] = xs.take (j + 1) := by
  have lt : j < xs.length := (List.getElem?_eq_some_iff.mp hj).1
  have e : xs[j] = x := (List.getElem?_eq_some_iff.mp hj).2
  rw [← e, List.take_succ_eq_append_getElem lt]
/-- all but what lies at a stays -/
def But (a : Addr) (H H' : Hp) : Prop := ∀ b o, b ≠ a → H b = some o → H' b = some o
theorem But.refl {a : Addr} {H : Hp} : But a H H := fun _ _ _ h => h
theorem But.trans {a : Addr} {H H1 H2 : Hp} (h : But a H H1) (k : But a H1 H2) : But a H H2 := fun b o n e => k b o n (h b o n e)
theorem But.of {a : Addr} {H H' : Hp} (h : Same H H') : But a H H' := fun b o _ e => h b o e
theorem But.upd {a : Addr} {H : Hp} {o : HO} : But a H (upd H a o) := fun b _ n e => (upd_ne n).trans e
theorem But.flat {a : Addr} {H H' : Hp} {xs : List V} {v : V} (h : But a H H') (ha : H a = some (.lst xs)) (f : Flat H v) : Flat H' v := f.mono fun b ys e => h b _ (fun z => by rw [z, ha] at e; cases e) e
inductive SpCopy0 : Sp where
  | mk {v : V} {H : Hp} {Q : VK} {E : XK} (hv : Flat H v) (q : Q v H) : SpCopy0 [v] H Q E
inductive SpCopyL : Sp where
  | mk {l : Addr} {xs : List V} {H : Hp} {Q : VK} {E : XK} (hl : H l = some (.lst xs)) (hx : ∀ x ∈ xs, Flat H x) (hn : xs.length ≤ 1000) (q : ∀ r H', H r = none → Same H H' → H' r = some (.lst xs) → Q (.ref r) H') : SpCopyL [.ref l] H Q E
inductive SpSpoil : Sp where
  | mk {l : Addr} {xs : List V} {H : Hp} {Q : VK} {E : XK} (hl : H l = some (.lst xs)) (hx : ∀ x ∈ xs, Flat H x) (hn : xs.length ≤ 1000) (q : ∀ H', But l H H' → Q .non H') : SpSpoil [.ref l] H Q E
inductive SpLay : Sp where
  | mk {m o : Addr} {xs ys : List V} {H : Hp} {Q : VK} {E : XK} (hm : H m = some (.lst xs)) (ho : H o = some (.lst ys)) (ne : m ≠ o) (hy : ∀ y ∈ ys, Flat H y) (hn : xs.length ≤ 1000) (hk : ys.length ≤ 1000) (q : ∀ H', But m H H' → H' m = some (.lst ys) → Q .non H') : SpLay [.ref m, .ref o] H Q E
section
variable {P : Program} {w : World} {K : PySem.W.Frag} {mg : Str → Option Value} {base : Heap}
theorem H0__law_copied (p : Pl K mg "_law_copied" s__law_copied) (B : Bi mg) : Has P w K mg base CX0 1 "_law_copied" ["_law_thing"] SpCopy0 := by
  refine p.mk0 sc__law_copied (fun _ _ _ _ _ _ us hl => match us, hl with | [_], _ => rfl) (fun vs H Q E h => ?_) (fun f cdv A outer s H vs Q E hr h => ?_)
  · cases h; rfl
  · obtain @⟨v, _, _, _, hv, q⟩ := h
    refine ⟨_, (pss_one (ps_ret (pe_ifExp (pt_val (pe_callB (r := rIsi K) call_isi (by rfl) B.isinstance (by decide +kernel) (pa_cons (pv 0) (pa_cons (pe_bltn (v := .ty "list") (by rfl) B.list (by decide +kernel) rfl) pa_nil)))) (pe_lc (own := [("_law_one", 1)]) (by rfl) sc__law_copied.nd (pi_list (pv 0)) (blkOk_by (own := [("_law_one", 1)]) (N := ["_law_thing", "_law_one"]) (sc := defScope s__law_copied) (by decide +kernel)) (fun _ _ _ _ _ => (pg_name (i := 1) sc__law_copied.nd rfl (Or.inl rfl))) (fun _ _ _ _ _ => pts_nil) (fun _ _ _ _ _ => pe_no)) (pv 0)))), ?_⟩
    obtain ⟨T, ty, kt⟩ := hv.isi (K := K)
    exact ⟨_, rfl, v, _, _, _, false, rfl, .ty "list", ty, kt, false, rfl, _, rfl, q⟩
theorem H__law_copied (p : Pl K mg "_law_copied" s__law_copied) (B : Bi mg) (h__law_copied : Has P w K mg base CX0 1 "_law_copied" ["_law_thing"] SpCopy0) : Has P w K mg base CX0 2 "_law_copied" ["_law_thing"] SpCopyL := by
  refine p.mk0 sc__law_copied (fun _ _ _ _ _ _ us hl => match us, hl with | [_], _ => rfl) (fun vs H Q E h => ?_) (fun f cdv A outer s H vs Q E hr h => ?_)
  · cases h; rfl
  · obtain @⟨l, xs, _, _, _, hl, hx, hn, q⟩ := h
    refine ⟨_, (pss_one (ps_ret (pe_ifExp (pt_val (pe_callB (r := rIsi K) call_isi (by rfl) B.isinstance (by decide +kernel) (pa_cons (pv 0) (pa_cons (pe_bltn (v := .ty "list") (by rfl) B.list (by decide +kernel) rfl) pa_nil)))) (pe_lc (own := [("_law_one", 1)]) (by rfl) sc__law_copied.nd (pi_list (pv 0)) (blkOk_by (own := [("_law_one", 1)]) (N := ["_law_thing", "_law_one"]) (sc := defScope s__law_copied) (by decide +kernel)) (fun _ _ _ _ _ => (pg_name (i := 1) sc__law_copied.nd rfl (Or.inl rfl))) (fun _ _ _ _ _ => pts_nil) (fun _ _ _ _ _ => (pe_fn h__law_copied (hr.mono (by decide)) pass0 (pa_cons (pv 1) pa_nil)))) (pv 0)))), ?_⟩
    refine ⟨_, rfl, .ref l, _, _, _, true, rfl, .ty "list", .base (.lst hl), kit_ty (by decide +kernel), true, rfl, ?_⟩
    refine ⟨_, rfl, l, rfl, ⟨_, sqL hl⟩, fun D hD => ?_⟩
    refine lc_list (K := K) (a := l) (xs := xs) (fun j H' => Same H H' ∧ H' D = some (.lst (xs.take j))) ⟨same_upd hD, upd_same⟩ (fun j H' _ ⟨sm, _⟩ => sqL (sm _ _ hl)) ?_ ?_
    · rintro j x H1 hj ⟨sm, eD⟩
      refine ⟨rfl, lc_yes ?_⟩
      refine ⟨_, rfl, .mk ((hx x (List.mem_of_getElem? hj)).mono fun b ys e => sm _ _ e) ⟨_, eD, ?_, same_mut2 sm hD, ?_⟩⟩
      · rw [List.length_take]
        exact size3 (Nat.le_trans (Nat.min_le_right _ _) hn)
      · rw [upd_same, take_push hj]
    · rintro H1 ⟨sm, eD⟩
      rw [List.take_length] at eD
      exact q _ _ hD sm eD
theorem H__law_spoiled (p : Pl K mg "_law_spoiled" s__law_spoiled) (B : Bi mg) : Has P w K mg base CX0 1 "_law_spoiled" ["_law_thing"] SpSpoil := by
  refine p.mk0 sc__law_spoiled (fun _ _ _ _ _ _ us hl => match us, hl with | [_], _ => rfl) (fun vs H Q E h => ?_) (fun f cdv A outer s H vs Q E hr h => ?_)
  · cases h; rfl
  · obtain @⟨l, xs, _, _, _, hl, hx, hn, q⟩ := h
    refine ⟨_, (pss_cons (ps_for PassesOwn.never (by rfl) (pi_list (pv 0)) (pg_name (i := 1) sc__law_spoiled.nd rfl (Or.inl rfl)) (pss_one (ps_if (pt_val (pe_callB (r := rIsi K) call_isi (by rfl) B.isinstance (by decide +kernel) (pa_cons (pv 1) (pa_cons (pe_bltn (v := .ty "list") (by rfl) B.list (by decide +kernel) rfl) pa_nil)))) (pss_one (ps_expr pe_no)) pss_nil)))
      (pss_cons (ps_expr (pe_bm PySem.F.plainAttrs_list PySem.F.slot_list_append PySem.F.type_list_append mt_append (pv 0) (pa_cons pe_int pa_nil)))
      (pss_one (ps_expr (pe_bm0 PySem.F.plainAttrs_list PySem.F.slot_list_reverse PySem.F.type_list_reverse mt_reverse (pv 0)))))), ?_⟩
    refine ⟨_, rfl, l, rfl, ⟨_, sqL hl⟩, for_list (K := K) (a := l) (xs := xs) (fun i σ H' => H' = H ∧ ∃ y, σ = [some (.ref l), y]) ⟨rfl, none, rfl⟩ ?_ ?_ ?_⟩
    · rintro i σ H' _ ⟨rfl, _⟩
      exact sqL hl
    · rintro i y σ H' hi ⟨rfl, y1, rfl⟩
      obtain ⟨T, ty, kt⟩ := (hx y (List.mem_of_getElem? hi)).isi (K := K)
      refine ⟨_, rfl, y, _, _, _, false, rfl, .ty "list", ty, kt, false, rfl, ?_⟩
      exact ⟨rfl, _, rfl⟩
    · rintro σ H' ⟨rfl, y1, rfl⟩
      refine ⟨_, rfl, tyL hl, l, xs, _, rfl, rfl, hl, size3 hn, ?_⟩
      refine ⟨_, rfl, tyL upd_same, l, _, rfl, rfl, upd_same, ?_⟩
      exact q _ (But.upd.trans But.upd)
theorem H__law_laid (p : Pl K mg "_law_laid" s__law_laid) (B : Bi mg) (h__law_copied : Has P w K mg base CX0 1 "_law_copied" ["_law_thing"] SpCopy0) : Has P w K mg base CX0 2 "_law_laid" ["_law_mine", "_law_other"] SpLay := by
  refine p.mk0 sc__law_laid (fun _ _ _ _ _ _ us hl => match us, hl with | [_, _], _ => rfl) (fun vs H Q E h => ?_) (fun f cdv A outer s H vs Q E hr h => ?_)
  · cases h; rfl
  · obtain @⟨m, o, xs, ys, _, _, _, hm, ho, ne, hy, hn, hk, q⟩ := h
    refine ⟨_, (pss_cons (ps_while PassesOwn.never (pt_cmpR op_gt (pe_callB (r := rLen2 K) call_len_seq (by rfl) B.len PySem.boot_len (pa_cons (pv 0) pa_nil)) (pe_callB (r := rLen2 K) call_len_seq (by rfl) B.len PySem.boot_len (pa_cons (pv 1) pa_nil)) (nomark _)) (pss_one (ps_expr (pe_bm0 PySem.F.plainAttrs_list PySem.F.slot_list_pop PySem.F.type_list_pop mt_pop (pv 0)))))
      (pss_one (ps_for PassesOwn.never (by rfl) (pi_enum (by rfl) B.enumerate (pa_cons (pv 1) pa_nil)) (pg_tup (by rfl) (pgs_cons (pg_name (i := 2) sc__law_laid.nd rfl (Or.inl rfl)) (pgs_cons (pg_name (i := 3) sc__law_laid.nd rfl (Or.inl rfl)) pgs_nil))) (pss_one (ps_if (pt_cmpR op_eq (pv 2) (pe_callB (r := rLen2 K) call_len_seq (by rfl) B.len PySem.boot_len (pa_cons (pv 0) pa_nil)) (nomark _)) (pss_one (ps_expr (pe_bm PySem.F.plainAttrs_list PySem.F.slot_list_append PySem.F.type_list_append mt_append (pv 0) (pa_cons (pe_fn h__law_copied (hr.mono (by decide)) pass0 (pa_cons (pv 3) pa_nil)) pa_nil)))) (pss_one (ps_if (PW.pt (pw_and (pt_val (pe_callB (r := rIsi K) call_isi (by rfl) B.isinstance (by decide +kernel) (pa_cons (pv 3) (pa_cons (pe_bltn (v := .ty "list") (by rfl) B.list (by decide +kernel) rfl) pa_nil)))) (pw_and1 (pt_val (pe_callB (r := rIsi K) call_isi (by rfl) B.isinstance (by decide +kernel) (pa_cons (pe_ix (r := rIxL K) ix_list (pv 0) (pv 2) (fun _ _ => rfl)) (pa_cons (pe_bltn (v := .ty "list") (by rfl) B.list (by decide +kernel) rfl) pa_nil))))))) (pss_one (ps_expr pe_no)) (pss_one (ps_asg (pe_fn h__law_copied (hr.mono (by decide)) pass0 (pa_cons (pv 3) pa_nil)) (pg_sub (pv 0) (pv 2) set_list)))))))))), ?_⟩
    refine ⟨fun n σ H' => σ = [some (.ref m), some (.ref o), none, none] ∧ But m H H' ∧ ∃ zs, H' m = some (.lst zs) ∧ zs.length ≤ 1000 ∧ n = zs.length, ⟨_, rfl, .refl, xs, hm, hn, rfl⟩, ?_⟩
    rintro n σ H' ⟨rfl, bt, zs, hz, hzl, rfl⟩
    have ho' := bt _ _ (Ne.symm ne) ho
    refine ⟨_, rfl, m, zs, rfl, .inl (sqL hz), _, rfl, o, ys, rfl, .inl (sqL ho'), _, _, rfl, rfl, _, rfl, ?_⟩
    show if decide ((ys.length : Int) < zs.length) = true then _ else _
    refine iteD (fun c => ?_) (fun c => ?_)
    · refine ⟨fun σ' H2 => σ' = [some (.ref m), some (.ref o), none, none] ∧ But m H H2 ∧ H2 m = some (.lst zs.dropLast), fun σ' H2 ⟨e1, b2, e2⟩ => ⟨zs.length - 1, by omega, e1, b2, _, e2, by rw [List.length_dropLast]; omega, by rw [List.length_dropLast]⟩, ?_⟩
      have hlast : zs.length - 1 < zs.length := by omega
      exact ⟨_, rfl, tyL hz, m, zs, _, rfl, rfl, hz, List.getElem?_eq_getElem hlast, rfl, bt.trans But.upd, upd_same⟩
    · refine ⟨_, rfl, o, ys, rfl, sqL ho', for_enumL (K := K) (a := o) (xs := ys) (fun i σ H2 => (∃ y2 y3, σ = [some (.ref m), some (.ref o), y2, y3]) ∧ But m H H2 ∧ ∃ zs, H2 m = some (.lst zs) ∧ zs.length ≤ ys.length ∧ i ≤ zs.length ∧ zs.take i = ys.take i) ⟨⟨_, _, rfl⟩, bt, zs, hz, by omega, Nat.zero_le _, rfl⟩ ?_ ?_ ?_⟩
      · rintro i σ H2 _ ⟨_, b2, _⟩
        exact sqL (b2 _ _ (Ne.symm ne) ho)
      · rintro i y T σ H2 hi ⟨⟨y2, y3, rfl⟩, b2, zs, ez, hl2, hil, ht⟩ hT
        generalize hH3 : upd H2 T _ = H3
        obtain ⟨sm3, up3⟩ := newH hH3 hT
        clear hH3
        have ez3 := sm3 _ _ ez
        have b3 : But m H H3 := b2.trans (.of sm3)
        have fy : Flat H3 y := b3.flat hm (hy y (List.mem_of_getElem? hi))
        have hil2 : i < ys.length := (List.getElem?_eq_some_iff.mp hi).1
        refine ⟨T, _, rfl, sqT up3, rfl, ?_⟩
        walk_at "rd"
        refine ⟨m, zs, rfl, .inl (sqL ez3), ?_⟩
        walk_at "rd"
        refine iteEq (fun c2 => ?_) (fun c2 => ?_)
        · have c3 : zs.length = i := by omega
          refine ⟨_, rfl, tyL ez3, ?_⟩
          walk_at "rd"
          refine .mk fy ⟨m, zs, y, rfl, rfl, ez3, size3 (by omega), ⟨_, _, rfl⟩, b3.trans But.upd, zs ++ [y], upd_same, ?_, ?_, ?_⟩
          · rw [List.length_append, List.length_singleton]; omega
          · rw [List.length_append, List.length_singleton]; omega
          · rw [← take_push hi, ← ht, ← c3, List.take_length]
            exact List.take_of_length_le (by rw [List.length_append, List.length_singleton]; exact Nat.le_refl _)
        · obtain ⟨T2, ty, kt⟩ := fy.isi (K := K)
          refine ⟨_, rfl, y, _, _, _, false, rfl, .ty "list", ty, kt, false, rfl, iteF ?_⟩
          walk_at "rd"
          refine .mk fy ?_
          walk_at "rd"
          refine ⟨m, zs, (i : Nat), i, rfl, rfl, ez3, ?_, ⟨_, _, rfl⟩, b3.trans But.upd, zs.set i y, upd_same, ?_, ?_, ?_⟩
          · unfold ixN
            rw [if_pos (by omega), if_pos (by omega)]
            rfl
          · rw [List.length_set]; exact hl2
          · rw [List.length_set]; omega
          · rw [← take_push hi, ← ht]
            have hi3 : i < (zs.set i y).length := by rw [List.length_set]; omega
            rw [List.take_succ_eq_append_getElem hi3, List.getElem_set_self, List.take_set_of_le (Nat.le_refl _)]
      · rintro σ H2 ⟨_, b2, zs, ez, hl2, hil, ht⟩
        have e : zs.length = ys.length := by omega
        rw [List.take_length, ← e, List.take_length] at ht
        rw [ht] at ez
        exact q _ b2 ez
end
end BF

/-! ### k10: the floor's bricks -/
namespace BF
open PySem PySem.Spec PyProof.Rows L2 LamX NdefX
def brD (b : Brick) : PyData := .tuple [.int b.x, .int b.y, .bool b.l]
theorem dp_brick {K : PySem.W.Frag} {H : Hp} {t : Addr} {b : Brick} (h : H t = some (.tup b.vs)) : Dp K H (.ref t) (brD b) := .tup (sqT h) (.cons (.int _) (.cons (.int _) (.cons (.bl _) .nil)))
theorem dp_bricks {K : PySem.W.Frag} {H : Hp} : ∀ {ps : List (Addr × Brick)}, BrT H ps → DpAll K H (refs ps) (ps.map fun p => brD p.2)
  | [], _ => .nil
  | p :: ps, h => .cons (dp_brick (h p (by simp))) (dp_bricks (ps := ps) fun q hq => h q (List.mem_cons_of_mem _ hq))
theorem shp_brick (b : Brick) : Shp 2 (brD b) := shp_tuple (n := 1) fun e he => by
  have z : e = .int b.x ∨ e = .int b.y ∨ e = .bool b.l := by simpa using he
  rcases z with rfl | rfl | rfl
  · exact shp_int _
  · exact shp_int _
  · exact shp_bool _
theorem shp_bricks (ps : List (Addr × Brick)) : Shp 3 (.list (ps.map fun p => brD p.2)) := shp_list (n := 2) fun d hd => by
  obtain ⟨p, _, rfl⟩ := List.mem_map.mp hd
  exact shp_brick _
inductive SpFloor : Sp where
  | mk {wi hi : Int} {H : Hp} {Q : VK} {E : XK} (w0 : 0 < wi) (w3 : wi ≤ 3) (h0 : 0 < hi) (h3 : hi ≤ 3) (q : ∀ l ps H', H l = none → Same H H' → H' l = some (.lst (refs ps)) → BrT H' ps → ps.length ≤ 54 → Q (.ref l) H') : SpFloor [.int wi, .int hi] H Q E
inductive FlI (wi hi : Int) (D : Addr) (H : Hp) (n : Nat) : L2.St → Hp → Prop where
  | mk {H' : Hp} {ps : List (Addr × Brick)} {y3 y4 y5 y6 : Option V} (sm : Same H H') (eD : H' D = some (.lst (refs ps))) (hb : BrT H' ps) (hn : ps.length ≤ n) : FlI wi hi D H n [some (.int wi), some (.int hi), some (.ref D), y3, y4, y5, y6] H'
inductive FlJ (wi hi : Int) (D : Addr) (H : Hp) (i : Int) (n : Nat) : L2.St → Hp → Prop where
  | mk {H' : Hp} {ps : List (Addr × Brick)} {y4 y5 y6 : Option V} (sm : Same H H') (eD : H' D = some (.lst (refs ps))) (hb : BrT H' ps) (hn : ps.length ≤ n) : FlJ wi hi D H i n [some (.int wi), some (.int hi), some (.ref D), some (.int i), y4, y5, y6] H'
section
variable {P : Program} {w : World} {K : PySem.W.Frag} {mg : Str → Option Value} {base : Heap}
theorem H__law_told (p : Pl K mg "_law_told" s__law_told) {sp : Sp} (hs : ∀ vs H Q E, sp vs H Q E → vs.length = 1 ∧ ∀ l, H l = none → Q (.ref l) (upd H l (.lst []))) : Has P w K mg base CX0 1 "_law_told" ["_law_found"] sp := by
  refine p.mk0 sc__law_told (fun _ _ _ _ _ _ us hl => match us, hl with | [_], _ => rfl) (fun vs H Q E h => (hs _ _ _ _ h).1) (fun f cdv A outer s H vs Q E hr h => ?_)
  refine ⟨_, (pss_one (ps_ret (pe_lst pa_nil))), ?_⟩
  walk_at "rd"
  exact (hs _ _ _ _ h).2
theorem H__law_floor (p : Pl K mg "_law_floor" s__law_floor) (B : Bi mg) (h_brick_on : Has P w K mg base CX0 5 "brick_on" ["length", "width", "first", "second", "cell"] SpBrickOn) : Has P w K mg base CX0 6 "_law_floor" ["_law_wide", "_law_high"] SpFloor := by
  refine p.mk0 sc__law_floor (fun _ _ _ _ _ _ us hl => match us, hl with | [_, _], _ => rfl) (fun vs H Q E h => ?_) (fun f cdv A outer s H vs Q E hr h => ?_)
  · cases h; rfl
  · obtain @⟨wi, hi, _, _, _, w0, w3, h0, h3, q⟩ := h
    refine ⟨_, (pss_cons (ps_set (i := 2) sc__law_floor.nd rfl (Or.inl rfl) (pe_lst pa_nil))
      (pss_cons (ps_for PassesOwn.never (by rfl) (pi_range1 (by rfl) B.range (pa_cons (pe_op op_mulX pe_int (pv 0)) pa_nil)) (pg_name (i := 3) sc__law_floor.nd rfl (Or.inl rfl)) (pss_one (ps_for PassesOwn.never (by rfl) (pi_range1 (by rfl) B.range (pa_cons (pe_op op_mulX pe_int (pv 1)) pa_nil)) (pg_name (i := 4) sc__law_floor.nd rfl (Or.inl rfl)) (pss_cons (ps_asg (pe_fn h_brick_on (hr.mono (by decide)) pass0 (pa_cons (pe_op op_mulX pe_int (pv 0)) (pa_cons (pe_op op_mulX pe_int (pv 1)) (pa_cons pe_int (pa_cons pe_int (pa_cons (pe_tup (pa_cons (pv 3) (pa_cons (pv 4) pa_nil))) pa_nil)))))) (pg_tup (by rfl) (pgs_cons (pg_name (i := 5) sc__law_floor.nd rfl (Or.inl rfl)) (pgs_cons (pg_name (i := 6) sc__law_floor.nd rfl (Or.inl rfl)) pgs_nil))))
      (pss_one (ps_if (pt_cmpR (r := rNotInD K) (op_notInD (u65 hr)) (pe_tup (pa_cons (pe_ix (r := rIxT K) ix_tup (pv 5) pe_int (fun _ _ => rfl)) (pa_cons (pe_ix (r := rIxT K) ix_tup (pv 5) pe_int (fun _ _ => rfl)) (pa_cons (pv 6) pa_nil)))) (pv 2) (by rfl)) (pss_one (ps_expr (pe_bm PySem.F.plainAttrs_list PySem.F.slot_list_append PySem.F.type_list_append mt_append (pv 2) (pa_cons (pe_tup (pa_cons (pe_ix (r := rIxT K) ix_tup (pv 5) pe_int (fun _ _ => rfl)) (pa_cons (pe_ix (r := rIxT K) ix_tup (pv 5) pe_int (fun _ _ => rfl)) (pa_cons (pv 6) pa_nil)))) pa_nil)))) pss_nil))))))
      (pss_one (ps_ret (pv 2))))), ?_⟩
    have z1 : ∀ x : Int, 0 < x → x < 1000 → Sz x := fun x a b => sz_of_lt a (Int.lt_trans b (by decide))
    have fr : Free (3 * wi) (2 * hi) 3 2 := free_of (m := wi) (n := 0) (u := 0) (v := hi) (by decide) (by decide) (.inl (by omega)) (.inr (by omega)) ⟨by omega, by omega, by omega⟩ ⟨by omega, by omega, by omega⟩
    have cm3 : CMulX 3 wi := Bn.mulOk (n := 10) (m := 10) (bnl (by decide)) (bnl (by omega)) (by decide)
    have cm2 : CMulX 2 hi := Bn.mulOk (n := 10) (m := 10) (bnl (by decide)) (bnl (by omega)) (by decide)
    walk_at "rd"
    intro D hD
    generalize hH1 : upd H D _ = H1
    obtain ⟨sm1, up1⟩ : Same H H1 ∧ H1 D = some (.lst (refs ([] : List (Addr × Brick)))) := newH hH1 hD
    clear hH1
    walk_at "rd"
    refine (for_range (lo := 0) (n := (3 * wi).toNat) (fun i σ H' => FlI wi hi D H (6 * i) σ H') (.mk sm1 up1 (fun p hp => nomatch hp) (Nat.zero_le _)) ?_ ?_)
    · rintro i _ H2 hii @⟨_, ps0, _, _, _, _, sm2, eD2, hb2, hn2⟩
      walk_at "rd"
      refine (for_range (lo := 0) (n := (2 * hi).toNat) (fun j σ H' => FlJ wi hi D H (0 + (i : Int)) (6 * i + j) σ H') (.mk sm2 eD2 hb2 hn2) ?_ ?_)
      · rintro j _ H3 hj @⟨_, ps, _, _, _, sm3, eD3, hb3, hn3⟩
        walk_at "rd"
        intro t4 ht4
        generalize hH4 : upd H3 t4 _ = H4
        obtain ⟨sm4, up4⟩ : Same H3 H4 ∧ H4 t4 = some (.tup (cellV (0 + (i : Int), 0 + (j : Int)))) := newH hH4 ht4
        clear hH4
        have cc : cellB (3 * wi) (2 * hi) (0 + (i : Int), 0 + (j : Int)) = true := by
          unfold cellB
          simp only [Bool.and_eq_true, decide_eq_true_eq]
          omega
        refine .mk (z1 _ (by omega) (by omega)) (z1 _ (by omega) (by omega)) (z1 _ (by decide) (by decide)) (z1 _ (by decide) (by decide)) fr up4 cc fun p5 c5 H5 sm5 hp5 hc5 => ?_
        generalize brickP (3 * wi) (2 * hi) 3 2 (0 + (i : Int), 0 + (j : Int)) = bk at hp5 hc5
        refine ⟨p5, _, rfl, sqT hp5, rfl, ?_⟩
        walk_at "rd"
        refine ⟨c5, _, 0, _, rfl, rfl, sqT hc5, rfl, ?_⟩
        walk_at "rd"
        refine ⟨c5, _, 1, _, rfl, rfl, sqT hc5, rfl, ?_⟩
        walk_at "rd"
        intro t6 ht6
        generalize hH6 : upd H5 t6 _ = H6
        obtain ⟨sm6, up6⟩ : Same H5 H6 ∧ H6 t6 = some (.tup bk.vs) := newH hH6 ht6
        clear hH6
        have s36 := sm4.trans (sm5.trans sm6)
        have hc6 := sm6 _ _ hc5
        have eD6 := s36 _ _ eD3
        refine ⟨_, rfl, _, _, dp_brick up6, .lst (sqL eD6) (dp_bricks (hb3.mono s36)), (shp_brick _).ok (by decide), (shp_bricks _).ok (by decide), ?_⟩
        generalize (!List.any _ _) = bb
        cases bb with
        | false => exact ⟨_, rfl, iteF (.mk (sm3.trans s36) eD6 (hb3.mono s36) (by omega))⟩
        | true =>
          refine ⟨_, rfl, iteT ?_⟩
          refine ⟨_, rfl, tyL eD6, ?_⟩
          walk_at "rd"
          refine ⟨c5, _, 0, _, rfl, rfl, sqT hc6, rfl, ?_⟩
          walk_at "rd"
          refine ⟨c5, _, 1, _, rfl, rfl, sqT hc6, rfl, ?_⟩
          walk_at "rd"
          intro t7 ht7
          generalize hH7 : upd H6 t7 _ = H7
          obtain ⟨sm7, up7⟩ : Same H6 H7 ∧ H7 t7 = some (.tup bk.vs) := newH hH7 ht7
          clear hH7
          have s37 := s36.trans sm7
          have eD7 := s37 _ _ eD3
          refine ⟨D, _, _, rfl, rfl, eD7, size3 (by rw [refs_len]; omega), .mk (ps := ps ++ [(t7, bk)]) (same_mut2 (sm3.trans s37) hD) ?_ (((hb3.mono s37).app (.one up7)).lst eD7) (by rw [List.length_append, List.length_singleton]; omega)⟩
          rw [upd_same]
          unfold refs
          rw [List.map_append]
          rfl
      · rintro _ H3 @⟨_, ps, _, _, _, sm3, eD3, hb3, hn3⟩
        exact .mk sm3 eD3 hb3 (by omega)
    · rintro _ H2 @⟨_, ps, _, _, _, _, sm2, eD2, hb2, hn2⟩
      exact ⟨_, rfl, q _ ps _ hD sm2 eD2 hb2 (by omega)⟩
end
end BF

/-! ### k10: a door asked twice -/
namespace BF
open PySem PySem.Spec PyProof.Rows L2 LamX NdefX
abbrev frs10 : List Str := ["_law_length", "_law_up"]
/-- the lambda F stands at f -/
structure Kp (f : Addr) (F : LF) (H : Hp) : Prop where
  f : H f = some (LamO f F)
  c : H F.c = some (CodeO F.c F.qual)
theorem Kp.mono {f : Addr} {F : LF} {H H' : Hp} (h : Kp f F H) (sm : Same H H') : Kp f F H' := ⟨sm _ _ h.f, sm _ _ h.c⟩
theorem Kp.but {f : Addr} {F : LF} {H H' : Hp} {m : Addr} {xs : List V} (h : Kp f F H) (b : But m H H') (hm : H m = some (.lst xs)) : Kp f F H' := by
  refine ⟨b _ _ (fun z => ?_) h.f, b _ _ (fun z => ?_) h.c⟩
  · have e := h.f
    rw [z, hm] at e
    unfold LamO at e
    cases e
  · have e := h.c
    rw [z, hm] at e
    unfold CodeO at e
    cases e
theorem BrT.but {H H' : Hp} {m : Addr} {xs : List V} {ps : List (Addr × Brick)} (h : BrT H ps) (b : But m H H') (hm : H m = some (.lst xs)) : BrT H' ps := fun p hp => b _ _ (fun z => by
  have e := h p hp
  rw [z, hm] at e
  cases e) (h p hp)
theorem BrT.flat {H : Hp} {ps : List (Addr × Brick)} (h : BrT H ps) : ∀ x ∈ refs ps, Flat H x := fun x hx => by
  unfold refs at hx
  obtain ⟨p, hp, rfl⟩ := List.mem_map.mp hx
  exact .tup (h p hp)
/-- the bricks' lists are alike -/
theorem eq_bricks (ps : List (Addr × Brick)) : PyData.eqv (.list (ps.map fun p => brD p.2)) (.list (ps.map fun p => brD p.2)) = true := SeqAt.eqv_refl _ (shp_bricks ps).c
theorem eq_bl (b : Bool) : PyData.eqv (.list [.bool b]) (.list [.bool b]) = true := SeqAt.eqv_refl _ rfl
theorem dp_bl {K : PySem.W.Frag} {H : Hp} {l : Addr} {b : Bool} (h : H l = some (.lst [.bl b])) : Dp K H (.ref l) (.list [.bool b]) := .lst (sqL h) (.cons (.bl b) .nil)
theorem dp_brs {K : PySem.W.Frag} {H : Hp} {l : Addr} {ps : List (Addr × Brick)} (h : H l = some (.lst (refs ps))) (hb : BrT H ps) : Dp K H (.ref l) (.list (ps.map fun p => brD p.2)) := .lst (sqL h) (dp_bricks hb)
theorem shp_bl (b : Bool) : SeqAt.shaped (.list [.bool b]) = true := (shp_list (n := 1) fun d hd => by
  obtain rfl := List.mem_singleton.mp hd
  exact shp_bool b).ok (by decide)
theorem shp_brs (ps : List (Addr × Brick)) : SeqAt.shaped (.list (ps.map fun p => brD p.2)) = true := (shp_bricks ps).ok (by decide)
/-- the floor's two sides, as the lambdas see them -/
inductive Sides : List (Option V) → Int → Int → Prop where
  | mk {L U : Int} (hL : 0 < L ∧ L ≤ 9) (hU : 0 < U ∧ U ≤ 6) : Sides [some (.int L), some (.int U)] L U
inductive SpAskD : List (Option V) → Sp where
  | mk {ws : List (Option V)} {L U : Int} {l : Addr} {ps : List (Addr × Brick)} {H : Hp} {Q : VK} {E : XK} (hw : Sides ws L U) (el : H l = some (.lst (refs ps))) (hb : BrT H ps) (hn : ps.length ≤ 1000)
      (q : ∀ p H', H p = none → Same H H' → H' p = some (.lst [.bl (fullB L U 3 2 (vals ps))]) → Q (.ref p) H') : SpAskD ws [.ref l] H Q E
inductive SpDoor (P : Program) (w : World) (K : PySem.W.Frag) (mg : Str → Option Value) (base : Heap) (cls : List (List (Str × Addr))) (ws : List (Option V)) : Sp where
  | mk {f l1 l2 : Addr} {F : LF} {L U : Int} {ps1 ps2 : List (Addr × Brick)} {H : Hp} {Q : VK} {E : XK} (hw : Sides ws L U) (ok : LOk P w K mg base CX0 4 f F ["_law_it"] frs10 SpAskD) (hcl : F.cl ∈ cls) (kp : Kp f F H)
      (e1 : H l1 = some (.lst (refs ps1))) (b1 : BrT H ps1) (n1 : ps1.length ≤ 1000) (e2 : H l2 = some (.lst (refs ps2))) (b2 : BrT H ps2) (n2 : ps2.length ≤ 1000) (q : ∀ H', Same H H' → Q (.bl true) H') : SpDoor P w K mg base cls ws [.ref f, .ref l1, .ref l2] H Q E
theorem ne_none {H : Hp} {a b : Addr} {o : HO} (h : H a = some o) (n : H b = none) : a ≠ b := ne_of_none h n
theorem same_but {H H1 H2 : Hp} {m : Addr} (sm : Same H H1) (b : But m H1 H2) (n : H m = none) : Same H H2 := fun a o e => b a o (ne_of_none e n) (sm a o e)
theorem none_of {H H' : Hp} {a : Addr} (sm : Same H H') (n : H' a = none) : H a = none := by
  cases e : H a with
  | none => rfl
  | some o => rw [sm _ _ e] at n; cases n
section
variable {P : Program} {w : World} {K : PySem.W.Frag} {mg : Str → Option Value} {base : Heap}
theorem H__law_door_right {cls : List (List (Str × Addr))} {ws : List (Option V)} (p : Pl K mg "_law_door_right" s__law_door_right) (h__law_copied : Has P w K mg base CX0 2 "_law_copied" ["_law_thing"] SpCopyL)
    (h__law_spoiled : Has P w K mg base CX0 1 "_law_spoiled" ["_law_thing"] SpSpoil) (h__law_laid : Has P w K mg base CX0 2 "_law_laid" ["_law_mine", "_law_other"] SpLay) :
    HasL P w K mg base cls frs10 ws 5 "_law_door_right" ["_law_ask", "_law_one", "_law_other"] (SpDoor P w K mg base cls ws) := by
  refine p.mkL sc__law_door_right (fun _ _ _ _ _ _ us hl => match us, hl with | [_, _, _], _ => rfl) (fun vs H Q E h => ?_) (fun fn cdv A outer s H vs Q hr C h => ?_)
  · cases h; rfl
  · obtain @⟨f, l1, l2, F, L, U, ps1, ps2, _, _, _, hw, l__law_ask, hcl, kp, e1, b1, n1, e2, b2, n2, q⟩ := h
    have c__law_ask := C _ hcl
    refine ⟨_, (pss_cons (ps_set (i := 3) sc__law_door_right.nd rfl (Or.inl rfl) (pe_fn h__law_copied (hr.mono (by decide)) pass0 (pa_cons (pv 1) pa_nil)))
      (pss_cons (ps_set (i := 4) sc__law_door_right.nd rfl (Or.inl rfl) (pe_calll (i := 0) l__law_ask c__law_ask rfl (hr.mono (by decide)) (Nat.le_refl _) pass0 rfl (.inl rfl) (pa_cons (pv 3) pa_nil)))
      (pss_cons (ps_if (pt_cmpR (r := rNeD K) (op_neD hr.units) (pv 3) (pv 1) (nomark _)) (pss_one (ps_ret pe_bl)) pss_nil)
      (pss_cons (ps_set (i := 5) sc__law_door_right.nd rfl (Or.inl rfl) (pe_fn h__law_copied (hr.mono (by decide)) pass0 (pa_cons (pv 4) pa_nil)))
      (pss_cons (ps_expr (pe_fn h__law_spoiled (hr.mono (by decide)) pass0 (pa_cons (pv 4) pa_nil)))
      (pss_cons (ps_if (pt_cmpR (r := rNeD K) (op_neD hr.units) (pe_calll (i := 0) l__law_ask c__law_ask rfl (hr.mono (by decide)) (Nat.le_refl _) pass0 rfl (.inl rfl) (pa_cons (pv 3) pa_nil)) (pv 5) (nomark _)) (pss_one (ps_ret pe_bl)) pss_nil)
      (pss_cons (ps_expr (pe_fn h__law_laid (hr.mono (by decide)) pass0 (pa_cons (pv 3) (pa_cons (pv 2) pa_nil))))
      (pss_cons (ps_if (PW.pt (pw_or (pt_cmpR (r := rNeD K) (op_neD hr.units) (pe_calll (i := 0) l__law_ask c__law_ask rfl (hr.mono (by decide)) (Nat.le_refl _) pass0 rfl (.inl rfl) (pa_cons (pv 3) pa_nil)) (pe_calll (i := 0) l__law_ask c__law_ask rfl (hr.mono (by decide)) (Nat.le_refl _) pass0 rfl (.inl rfl) (pa_cons (pe_fn h__law_copied (hr.mono (by decide)) pass0 (pa_cons (pv 2) pa_nil)) pa_nil)) (nomark _)) (pw_or1 (pt_cmpR (r := rNeD K) (op_neD hr.units) (pv 3) (pv 2) (nomark _))))) (pss_one (ps_ret pe_bl)) pss_nil)
      (pss_cons (ps_expr (pe_fn h__law_laid (hr.mono (by decide)) pass0 (pa_cons (pv 3) (pa_cons (pv 1) pa_nil))))
      (pss_one (ps_ret (pe_and (pe_cmpR (r := rEqD K) (op_eqD hr.units) (pe_calll (i := 0) l__law_ask c__law_ask rfl (hr.mono (by decide)) (Nat.le_refl _) pass0 rfl (.inl rfl) (pa_cons (pv 3) pa_nil)) (pv 5) (nomark _)) (pe_one (pe_cmpR (r := rEqD K) (op_eqD hr.units) (pv 3) (pv 1) (nomark _))))))))))))))), ?_⟩
    walk_at "rd"
    refine .mk e1 b1.flat (by rw [refs_len]; exact n1) fun m H1 nm sm1 em => ?_
    walk_at "rd"
    have kp1 := kp.mono sm1
    have b11 := b1.mono sm1
    refine ⟨kp1.f, ?_⟩
    walk_at "rd"
    refine ⟨kp1.f, kp1.c, .mk hw em b11 n1 fun g H2 ng sm2 eg => ?_⟩
    have fl : ∀ (b : Bool) (H : Hp), ∀ x ∈ [V.bl b], Flat H x := fun b H x hx => by
      obtain rfl := List.mem_singleton.mp hx
      exact .bl b
    generalize hbb : fullB L U 3 2 (vals ps1) = bb1 at eg
    walk_at "rd"
    have em2 := sm2 _ _ em
    have e12 := sm2 _ _ (sm1 _ _ e1)
    have b12 := b11.mono sm2
    refine ⟨_, _, dp_brs em2 b12, dp_brs e12 b12, shp_brs _, shp_brs _, ?_⟩
    rw [eq_bricks]
    walk_at "rd"
    refine .mk eg (fl _ _) (by simp) fun bf H3 nb sm3 eb => ?_
    have s13 := sm1.trans (sm2.trans sm3)
    have eg3 := sm3 _ _ eg
    have em3 := sm3 _ _ em2
    walk_at "rd"
    refine .mk eg3 (fl _ _) (by simp) fun H4 bt4 => ?_
    have gm : m ≠ g := ne_none em ng
    have gb : bf ≠ g := fun z => by rw [z, eg] at nb; cases nb
    have mb : m ≠ bf := ne_none em2 nb
    have g1 : l1 ≠ g := ne_none (sm1 _ _ e1) ng
    have g2 : l2 ≠ g := ne_none (sm1 _ _ e2) ng
    have m1 : m ≠ l1 := Ne.symm (ne_none e1 nm)
    have m2 : m ≠ l2 := Ne.symm (ne_none e2 nm)
    have kp4 := (kp1.mono (sm2.trans sm3)).but bt4 eg3
    have s4 : Same H H4 := same_but s13 bt4 (none_of sm1 ng)
    have em4 := bt4 _ _ gm em3
    have eb4 := bt4 _ _ gb eb
    have b14 : BrT H4 ps1 := b1.mono s4
    have b24 : BrT H4 ps2 := b2.mono s4
    have e14 := s4 _ _ e1
    have e24 := s4 _ _ e2
    walk_at "rd"
    refine ⟨kp4.f, ?_⟩
    walk_at "rd"
    refine ⟨kp4.f, kp4.c, .mk hw em4 b14 n1 fun g5 H5 ng5 sm5 eg5 => ?_⟩
    rw [hbb] at eg5
    walk_at "rd"
    refine ⟨_, _, dp_bl eg5, dp_bl (sm5 _ _ eb4), shp_bl _, shp_bl _, ?_⟩
    rw [eq_bl]
    walk_at "rd"
    refine .mk (sm5 _ _ em4) (sm5 _ _ e24) m2 (b24.mono sm5).flat (by rw [refs_len]; exact n1) (by rw [refs_len]; exact n2) fun H6 bt6 em6 => ?_
    have kp6 := (kp4.mono sm5).but bt6 (sm5 _ _ em4)
    have s6 : Same H H6 := same_but (s4.trans sm5) bt6 nm
    have eb6 := bt6 _ _ (Ne.symm mb) (sm5 _ _ eb4)
    have b26 : BrT H6 ps2 := b2.mono s6
    walk_at "rd"
    refine ⟨kp6.f, ?_⟩
    walk_at "rd"
    refine ⟨kp6.f, kp6.c, .mk hw em6 b26 n2 fun g7 H7 ng7 sm7 eg7 => ?_⟩
    have kp7 := kp6.mono sm7
    refine ⟨rfl, kp7.f, ?_⟩
    walk_at "rd"
    refine .mk (sm7 _ _ (s6 _ _ e2)) (b26.mono sm7).flat (by rw [refs_len]; exact n2) fun c8 H8 nc8 sm8 ec8 => ?_
    have kp8 := kp7.mono sm8
    walk_at "rd"
    refine ⟨kp8.f, kp8.c, .mk hw ec8 (b26.mono (sm7.trans sm8)) n2 fun g9 H9 ng9 sm9 eg9 => ?_⟩
    have s69 := sm7.trans (sm8.trans sm9)
    have em9 := s69 _ _ em6
    have s9 := s6.trans s69
    refine ⟨_, _, dp_bl (sm9 _ _ (sm8 _ _ eg7)), dp_bl eg9, shp_bl _, shp_bl _, ?_⟩
    rw [eq_bl]
    walk_at "rd"
    refine ⟨_, _, dp_brs em9 (b2.mono s9), dp_brs (s9 _ _ e2) (b2.mono s9), shp_brs _, shp_brs _, ?_⟩
    rw [eq_bricks]
    walk_at "rd"
    refine .mk em9 (s9 _ _ e1) m1 (b1.mono s9).flat (by rw [refs_len]; exact n2) (by rw [refs_len]; exact n1) fun Ha bta ema => ?_
    have kpa := (kp6.mono s69).but bta em9
    have sa : Same H Ha := same_but s9 bta nm
    have eba := bta _ _ (Ne.symm mb) (s69 _ _ eb6)
    walk_at "rd"
    refine ⟨kpa.f, ?_⟩
    walk_at "rd"
    refine ⟨kpa.f, kpa.c, .mk hw ema (b1.mono sa) n1 fun gb Hb ngb smb egb => ?_⟩
    rw [hbb] at egb
    have sb := sa.trans smb
    walk_at "rd"
    refine ⟨_, _, dp_bl egb, dp_bl (smb _ _ eba), shp_bl _, shp_bl _, ?_⟩
    rw [eq_bl]
    walk_at "rd"
    refine ⟨_, _, dp_brs (smb _ _ ema) (b1.mono sb), dp_brs (sb _ _ e1) (b1.mono sb), shp_brs _, shp_brs _, ?_⟩
    rw [eq_bricks]
    exact q _ sb
end
end BF

/-! ### k10: a free answer -/
namespace BF
open PySem PySem.Spec PyProof.Rows L2 LamX NdefX
inductive SpAskJ (K : PySem.W.Frag) : List (Option V) → Sp where
  | mk {ws : List (Option V)} {L U : Int} {l : Addr} {ps : List (Addr × Brick)} {H : Hp} {Q : VK} {E : XK} (hw : Sides ws L U) (el : H l = some (.lst (refs ps))) (hb : BrT H ps) (hn : ps.length ≤ 1000)
      (q : ∀ p H' d, Same H H' → At5 K H' p d → IsJ L U 3 2 (vals ps) d → Q (.ref p) H') : SpAskJ K ws [.ref l] H Q E
inductive SpWord (K : PySem.W.Frag) : List (Option V) → Sp where
  | mk {ws : List (Option V)} {L U : Int} {p l : Addr} {d : D5} {ps : List (Addr × Brick)} {H : Hp} {Q : VK} {E : XK} (hw : Sides ws L U) (ha : At5 K H p d) (el : H l = some (.lst (refs ps))) (hb : BrT H ps) (hn : ps.length ≤ 1000)
      (q : ∀ H', Same H H' → Q (.bl (due5 L U 3 2 (vals ps) d)) H') : SpWord K ws [.ref p, .ref l] H Q E
inductive SpTold0 : Sp where
  | mk {v : V} {H : Hp} {Q : VK} {E : XK} (q : ∀ l, H l = none → Q (.ref l) (upd H l (.lst []))) : SpTold0 [v] H Q E
inductive SpFree (P : Program) (w : World) (K : PySem.W.Frag) (mg : Str → Option Value) (base : Heap) (cls : List (List (Str × Addr))) (ws : List (Option V)) : Sp where
  | mk {f h l1 l2 : Addr} {F G : LF} {L U : Int} {ps1 ps2 : List (Addr × Brick)} {H : Hp} {Q : VK} {E : XK} (hw : Sides ws L U) (ok : LOk P w K mg base CX0 4 f F ["_law_it"] frs10 (SpAskJ K)) (hcl : F.cl ∈ cls) (kp : Kp f F H)
      (ok2 : LOk P w K mg base CX0 4 h G ["_law_found", "_law_it"] frs10 (SpWord K)) (hcl2 : G.cl ∈ cls) (kq : Kp h G H)
      (e1 : H l1 = some (.lst (refs ps1))) (b1 : BrT H ps1) (n1 : ps1.length ≤ 1000) (e2 : H l2 = some (.lst (refs ps2))) (b2 : BrT H ps2) (n2 : ps2.length ≤ 1000) (q : ∀ H', Same H H' → Q (.bl true) H') : SpFree P w K mg base cls ws [.ref f, .ref h, .ref l1, .ref l2] H Q E
inductive FrI (f h l1 l2 m : Addr) (ps1 : List (Addr × Brick)) (H : Hp) (i : Nat) : L2.St → Hp → Prop where
  | mk {H' : Hp} {psx : List (Addr × Brick)} {y5 y6 : Option V} (sm : Same H H') (em : H' m = some (.lst (refs psx))) (hn : psx.length ≤ 1000) (hx : i = 4 → psx = ps1) : FrI f h l1 l2 m ps1 H i [some (.ref f), some (.ref h), some (.ref l1), some (.ref l2), some (.ref m), y5, y6] H'
section
variable {P : Program} {w : World} {K : PySem.W.Frag} {mg : Str → Option Value} {base : Heap}
theorem told0 (p : Pl K mg "_law_told" s__law_told) : Has P w K mg base CX0 1 "_law_told" ["_law_found"] SpTold0 := H__law_told p fun vs H Q E h => by
  obtain ⟨q⟩ := h
  exact ⟨rfl, q⟩
theorem H__law_free_right {cls : List (List (Str × Addr))} {ws : List (Option V)} (p : Pl K mg "_law_free_right" s__law_free_right) (h__law_copied : Has P w K mg base CX0 2 "_law_copied" ["_law_thing"] SpCopyL)
    (h__law_spoiled : Has P w K mg base CX0 1 "_law_spoiled" ["_law_thing"] SpSpoil) (h__law_laid : Has P w K mg base CX0 2 "_law_laid" ["_law_mine", "_law_other"] SpLay) (h__law_told : Has P w K mg base CX0 1 "_law_told" ["_law_found"] SpTold0) :
    HasL P w K mg base cls frs10 ws 5 "_law_free_right" ["_law_ask", "_law_holds", "_law_one", "_law_other"] (SpFree P w K mg base cls ws) := by
  refine p.mkL sc__law_free_right (fun _ _ _ _ _ _ us hl => match us, hl with | [_, _, _, _], _ => rfl) (fun vs H Q E h => ?_) (fun fn cdv A outer s H vs Q hr C h => ?_)
  · cases h; rfl
  · obtain @⟨f, h, l1, l2, F, G, L, U, ps1, ps2, _, _, _, hw, l__law_ask, hcl, kp, l__law_holds, hcl2, kq, e1, b1, n1, e2, b2, n2, q⟩ := h
    have c__law_ask := C _ hcl
    have c__law_holds := C _ hcl2
    refine ⟨_, (pss_cons (ps_set (i := 4) sc__law_free_right.nd rfl (Or.inl rfl) (pe_fn h__law_copied (hr.mono (by decide)) pass0 (pa_cons (pv 2) pa_nil)))
      (pss_cons (ps_for PassesOwn.never (by rfl) (pi_tup (pe_tup (pa_cons (pv 2) (pa_cons (pv 2) (pa_cons (pv 3) (pa_cons (pv 2) pa_nil)))))) (pg_name (i := 5) sc__law_free_right.nd rfl (Or.inl rfl)) (pss_cons (ps_expr (pe_fn h__law_laid (hr.mono (by decide)) pass0 (pa_cons (pv 4) (pa_cons (pv 5) pa_nil))))
      (pss_cons (ps_set (i := 6) sc__law_free_right.nd rfl (Or.inl rfl) (pe_calll (i := 0) l__law_ask c__law_ask rfl (hr.mono (by decide)) (Nat.le_refl _) pass0 rfl (.inl rfl) (pa_cons (pv 4) pa_nil)))
      (pss_cons (ps_if (PW.pt (pw_or (pt_cmpR (r := rNeD K) (op_neD hr.units) (pv 4) (pv 5) (nomark _)) (pw_or1 (pt_cmpR op_notBl (pe_calll (i := 1) l__law_holds c__law_holds rfl (hr.mono (by decide)) (Nat.le_refl _) pass0 rfl (.inl rfl) (pa_cons (pv 6) (pa_cons (pe_fn h__law_copied (hr.mono (by decide)) pass0 (pa_cons (pv 5) pa_nil)) pa_nil))) pe_bl (nomark _))))) (pss_one (ps_ret pe_bl)) pss_nil)
      (pss_one (ps_expr (pe_fn h__law_spoiled (hr.mono (by decide)) pass0 (pa_cons (pe_fn h__law_told (hr.mono (by decide)) pass0 (pa_cons (pv 6) pa_nil)) pa_nil))))))))
      (pss_one (ps_ret (pe_cmpR (r := rEqD K) (op_eqD hr.units) (pv 4) (pv 2) (nomark _)))))), ?_⟩
    walk_at "rd"
    refine .mk e1 b1.flat (by rw [refs_len]; exact n1) fun m H1 nm sm1 em => ?_
    walk_at "rd"
    intro T hT
    generalize hH2 : upd H1 T _ = H2
    obtain ⟨sm2, up2⟩ : Same H1 H2 ∧ H2 T = some (.tup [.ref l1, .ref l1, .ref l2, .ref l1]) := newH hH2 hT
    clear hH2
    have m1 : m ≠ l1 := Ne.symm (ne_none e1 nm)
    have m2 : m ≠ l2 := Ne.symm (ne_none e2 nm)
    have mT : T ≠ m := fun z => by rw [z, em] at hT; cases hT
    have key : ∀ (i : Nat) (x : V), [V.ref l1, V.ref l1, V.ref l2, V.ref l1][i]? = some x → ∃ l psx, x = .ref l ∧ H l = some (.lst (refs psx)) ∧ BrT H psx ∧ psx.length ≤ 1000 ∧ m ≠ l ∧ (i + 1 = 4 → psx = ps1) := fun i x e => by
      rcases i with _ | _ | _ | _ | i
      · cases e; exact ⟨l1, ps1, rfl, e1, b1, n1, m1, fun z => by omega⟩
      · cases e; exact ⟨l1, ps1, rfl, e1, b1, n1, m1, fun z => by omega⟩
      · cases e; exact ⟨l2, ps2, rfl, e2, b2, n2, m2, fun z => by omega⟩
      · cases e; exact ⟨l1, ps1, rfl, e1, b1, n1, m1, fun _ => rfl⟩
      · simp at e
    refine ⟨T, rfl, ⟨_, sqT up2⟩, for_tup (K := K) (a := T) (xs := [.ref l1, .ref l1, .ref l2, .ref l1]) (fun i σ H' => FrI f h l1 l2 m ps1 H i σ H' ∧ H' T = some (.tup [.ref l1, .ref l1, .ref l2, .ref l1])) ⟨.mk (sm1.trans sm2) (sm2 _ _ em) n1 (fun _ => rfl), up2⟩ ?_ ?_ ?_⟩
    · rintro i σ H' _ ⟨_, eT⟩
      exact sqT eT
    · rintro i x _ H3 hi ⟨@⟨_, psy, _, _, sm3, em3, hn3, _⟩, eT3⟩
      obtain ⟨l, psx, rfl, el, bl, nl, ml, last⟩ := key i x hi
      walk_at "rd"
      refine .mk em3 (sm3 _ _ el) ml (bl.mono sm3).flat (by rw [refs_len]; exact hn3) (by rw [refs_len]; exact nl) fun H4 bt4 em4 => ?_
      have s4 : Same H H4 := same_but sm3 bt4 nm
      have kp4 := kp.mono s4
      have eT4 := bt4 _ _ mT eT3
      walk_at "rd"
      refine ⟨kp4.f, ?_⟩
      walk_at "rd"
      refine ⟨kp4.f, kp4.c, .mk hw em4 (bl.mono s4) nl fun a H5 d sm5 ha hj => ?_⟩
      have s5 := s4.trans sm5
      have em5 := sm5 _ _ em4
      walk_at "rd"
      refine ⟨_, _, dp_brs em5 (bl.mono s5), dp_brs (s5 _ _ el) (bl.mono s5), shp_brs _, shp_brs _, ?_⟩
      rw [eq_bricks]
      walk_at "rd"
      have kq5 := kq.mono s5
      refine ⟨kq5.f, ?_⟩
      walk_at "rd"
      refine .mk (s5 _ _ el) (bl.mono s5).flat (by rw [refs_len]; exact nl) fun c6 H6 nc6 sm6 ec6 => ?_
      have s6 := s5.trans sm6
      have kq6 := kq5.mono sm6
      walk_at "rd"
      refine ⟨kq6.f, kq6.c, .mk hw (ha.mono sm6) ec6 (bl.mono s6) nl fun H7 sm7 => ?_⟩
      have hLU : 0 < L ∧ 0 < U := by
        cases hw with
        | mk a b => exact ⟨a.1, b.1⟩
      rw [hj.due hLU.1 hLU.2]
      have s7 := s6.trans sm7
      walk_at "rd"
      refine .mk fun l8 nl8 => ?_
      generalize hH8 : upd H7 l8 _ = H8
      obtain ⟨sm8, up8⟩ : Same H7 H8 ∧ H8 l8 = some (.lst []) := newH hH8 nl8
      clear hH8
      walk_at "rd"
      refine .mk up8 (fun _ z => nomatch z) (by simp) fun H9 bt9 => ?_
      have s47 : Same H4 H7 := sm5.trans (sm6.trans sm7)
      have em7 := s47 _ _ em4
      have eT7 := s47 _ _ eT4
      refine ⟨.mk (same_but (s7.trans sm8) bt9 (none_of s7 nl8)) (bt9 _ _ (ne_none em7 nl8) (sm8 _ _ em7)) nl last, bt9 _ _ (ne_none eT7 nl8) (sm8 _ _ eT7)⟩
    · rintro _ H3 ⟨@⟨_, psy, _, _, sm3, em3, hn3, hx⟩, eT3⟩
      obtain rfl := hx rfl
      walk_at "rd"
      refine ⟨_, _, dp_brs em3 (b1.mono sm3), dp_brs (sm3 _ _ e1) (b1.mono sm3), shp_brs _, shp_brs _, ?_⟩
      rw [eq_bricks]
      exact q _ sm3
end
end BF

/-! ### k10: the three lambdas -/
namespace BF
open PySem PySem.Spec PyProof.Rows L2 LamX NdefX
def stAt (l : List Stmt) (i : Nat) : Stmt := l.getD i (.Pass ⟨0, 0, 0, 0⟩)
def noE : Expr := .Name "" ⟨0, 0, 0, 0⟩
def forB : Stmt → List Stmt
  | .For _ _ b _ _ => b
  | _ => []
def valE : Stmt → Expr
  | .Assign _ e _ => e
  | .Expr e _ => e
  | _ => noE
def arg0 : Expr → Expr
  | .Call _ (e :: _) _ _ => e
  | _ => noE
def elt0 : Expr → Expr
  | .Tuple (e :: _) _ _ => e
  | _ => noE
def lamP : Expr → Arguments
  | .Lambda p _ _ _ => p
  | _ => defArgs s_law
def lamB : Expr → Expr
  | .Lambda _ b _ _ => b
  | _ => noE
def lamS : Expr → Scope
  | .Lambda _ _ s _ => s
  | _ => defScope s_law
abbrev loopB : List Stmt := forB (stAt (defBody s_law) 8)
abbrev eW : Expr := valE (stAt loopB 0)
abbrev eJ : Expr := elt0 (arg0 (valE (stAt loopB 1)))
abbrev eD : Expr := elt0 (arg0 (valE (stAt loopB 2)))
abbrev lf (q : Str) (cells : List (Str × Addr)) (e : Expr) (c : Addr) : LF := ⟨q, lamP e, lamB e, lamS e, cloFrom cells (lamS e).names [], c⟩
theorem sc_J : NScope ["_law_it", "_law_length", "_law_up"] ["_law_it"] frs10 (lamS eJ) := nscope_by (by decide +kernel)
theorem sc_D : NScope ["_law_it", "_law_length", "_law_up"] ["_law_it"] frs10 (lamS eD) := nscope_by (by decide +kernel)
theorem sc_W : NScope ["_law_found", "_law_it", "_law_length", "_law_up"] ["_law_found", "_law_it"] frs10 (lamS eW) := nscope_by (by decide +kernel)
theorem At5.look {K : PySem.W.Frag} {H : Hp} {p : Addr} {d : D5} (h : At5 K H p d) : ∃ dx fs, H p = some (.ins (cl K d.cl) dx fs) ∧ fs.lookup ("shows" : Str) = none := by
  cases h with
  | full h => obtain ⟨dx, e⟩ := h; exact ⟨dx, _, e, rfl⟩
  | beyond h => obtain ⟨dx, e⟩ := h; exact ⟨dx, _, e, rfl⟩
  | twice h ht => obtain ⟨dx, e⟩ := h; exact ⟨dx, _, e, rfl⟩
  | bare h ht => obtain ⟨dx, e⟩ := h; exact ⟨dx, _, e, rfl⟩
section
variable {P : Program} {w : World} {K : PySem.W.Frag} {mg : Str → Option Value} {base : Heap}
theorem lok_J {f : Addr} {q : Str} {cells : List (Str × Addr)} {c : Addr} (h_judged : Has P w K mg base CX0 3 "judged" ["length", "width", "first", "second", "bricks"] (SpJudged K)) : LOk P w K mg base CX0 4 f (lf q cells eJ c) ["_law_it"] frs10 (SpAskJ K) := by
  refine lok_of sc_J (fun _ _ us hl => match us, hl with | [_], _ => rfl) (fun ws vs H Q E h => ?_) (fun A outer s H vs ws Q E hr hwl h => ?_)
  · cases h; rfl
  · obtain @⟨L, U, l, ps, _, _, _, hw, el, hb, hn, q⟩ := h
    refine ⟨_, (pe_fn h_judged (hr.mono (by decide)) pass0 (pa_cons (pv 1) (pa_cons (pv 2) (pa_cons pe_int (pa_cons pe_int (pa_cons (pv 0) pa_nil)))))), ?_⟩
    cases hw with
    | mk hL hU =>
      have hm : L * U ≤ 400 := by
        have z : L * U ≤ 9 * 6 := Int.mul_le_mul hL.2 hU.2 (by omega) (by omega)
        omega
      exact ⟨_, rfl, _, rfl, _, rfl, .mk hL.1 hU.1 hm (by decide) (by decide) el hb hn q⟩
theorem lok_W {f : Addr} {q : Str} {cells : List (Str × Addr)} {c : Addr} (G : ClG K mg) (h_shows5 : ∀ x, Ok5 x → HasM P w K mg base CX0 3 x "shows" ["self", "length", "width", "first", "second", "bricks"] (SpShows5 K x)) :
    LOk P w K mg base CX0 4 f (lf q cells eW c) ["_law_found", "_law_it"] frs10 (SpWord K) := by
  refine lok_of sc_W (fun _ _ us hl => match us, hl with | [_, _], _ => rfl) (fun ws vs H Q E h => ?_) (fun A outer s H vs ws Q E hr hwl h => ?_)
  · cases h; rfl
  · obtain @⟨L, U, p, l, d, ps, _, _, _, hw, ha, el, hb, hn, q⟩ := h
    refine ⟨_, (pe_methA h_shows5 (fun x hx => (G.f x (ok5 hx)).c) (hr.mono (by decide)) pass0 (pv 0) (pa_cons (pv 2) (pa_cons (pv 3) (pa_cons pe_int (pa_cons pe_int (pa_cons (pv 1) pa_nil)))))), ?_⟩
    cases hw with
    | mk hL hU =>
      obtain ⟨dx, fs, e, lk⟩ := ha.look
      refine ⟨d.cl, d.ok, _, rfl, p, dx, fs, rfl, e, lk, ?_⟩
      exact ⟨_, rfl, _, rfl, _, rfl, .mk ha rfl ⟨hL.1, by omega⟩ ⟨hU.1, by omega⟩ (by decide) (by decide) (sqL el) hb.all (by omega) q⟩
theorem lok_D {f : Addr} {q : Str} {cells : List (Str × Addr)} {c : Addr} (G : ClG K mg) (CI : ClI P w K mg base) (h_shows5 : ∀ x, Ok5 x → HasM P w K mg base CX0 3 x "shows" ["self", "length", "width", "first", "second", "bricks"] (SpShows5 K x)) :
    LOk P w K mg base CX0 4 f (lf q cells eD c) ["_law_it"] frs10 SpAskD := by
  refine lok_of sc_D (fun _ _ us hl => match us, hl with | [_], _ => rfl) (fun ws vs H Q E h => ?_) (fun A outer s H vs ws Q E hr hwl h => ?_)
  · cases h; rfl
  · obtain @⟨L, U, l, ps, _, _, _, hw, el, hb, hn, q⟩ := h
    refine ⟨_, (pe_lst (pa_cons (pe_methA h_shows5 (fun x hx => (G.f x (ok5 hx)).c) (hr.mono (by decide)) pass0 (pe_mkN (x := .full) CI G (by decide) (by decide)) (pa_cons (pv 1) (pa_cons (pv 2) (pa_cons pe_int (pa_cons pe_int (pa_cons (pv 0) pa_nil)))))) pa_nil)), ?_⟩
    cases hw with
    | mk hL hU =>
      refine ⟨.full, D5.ok .full, fun p H1 np sm1 ⟨dx, e⟩ => ⟨p, dx, [], rfl, e, rfl, ?_⟩⟩
      refine ⟨_, rfl, _, rfl, _, rfl, .mk (d := .full) (.full ⟨dx, e⟩) rfl ⟨hL.1, by omega⟩ ⟨hU.1, by omega⟩ (by decide) (by decide) (sqL (sm1 _ _ el)) (hb.mono sm1).all (by omega) fun H2 sm2 => ?_⟩
      refine ⟨(show 1 ≤ sizeLine by decide), fun l2 nl2 => ?_⟩
      exact q _ _ (none_of (sm1.trans sm2) nl2) ((sm1.trans sm2).trans (same_upd nl2)) upd_same
end
end BF

/-! ### the law k10 -/
namespace BF
open PySem PySem.Spec PyProof.Rows L2 LamX NdefX
/-- a def whose code object is at c -/
def PlC (K : PySem.W.Frag) (mg : Str → Option Value) (x : Str) (st : Stmt) (c : Addr) : Prop := ∃ f fd, FnP K x x st f fd ∧ mg x = some (.ref f) ∧ fd.code = .ref c
theorem PlC.mk0 {P : Program} {w : World} {K : PySem.W.Frag} {mg : Str → Option Value} {base : Heap} {x : Str} {st : Stmt} {N ps : List Str} {k : Nat} {sp : Sp} {c : Addr} (p : PlC K mg x st c) (S : FnScope N ps (defScope st))
    (hb : ∀ (kV doc pm : Value) (an : Option Addr) (cdv ct : Value) (us : List Value), us.length = ps.length → bindArgs (PySem.W.fnOf x x (defArgs st) (defBody st) (defScope st) .none kV doc pm an cdv ct) ⟨us, []⟩ = pure (ps.zip us))
    (len : ∀ vs H Q E, sp vs H Q E → vs.length = ps.length)
    (body : ∀ (f : Addr) (A : Around) (outer : List Env) (s : Shared) (H : Hp) (vs : List V) (Q : VK) (E : XK), Room k (A.deeper (envOfC x (defScope st) s.heap.objs.size f (.ref c))) → sp vs H Q E →
      ∃ t, PSs (cxOf CX0 P w K mg base N x (defScope st) f (.ref c) A outer s H E).nox (defBody st) t ∧ t { nx := fun _ H' => Q .non H', rt := Q } (start N vs) H) : Has P w K mg base CX0 (k + 1) x ps sp := by
  obtain ⟨f, fd, F, g, hc⟩ := p
  have Fb := F.bindsN hb
  have kp := F.kp
  obtain ⟨oc, od, dV, kV, doc, pm, an, cdv, ct, osl, rfl, lk, hcd, _, _⟩ := F.ex
  obtain rfl : cdv = .ref c := hc
  refine ⟨f, _, fn_of lk hcd S len fun A outer s H vs Q E hr hsp => ?_, g, kp, Fb, oc, od, osl, lk⟩
  obtain ⟨t, a, b⟩ := body f A outer s H vs Q E hr hsp
  exact ⟨t, a.nox, b⟩
abbrev cL (K : PySem.W.Frag) : Addr × Addr := He.cT K ("law", none)
abbrev qL : Str := ("law" ++ ".<locals>.") ++ "<lambda>"
def tabs (K : PySem.W.Frag) : List (Addr × Str) := [((cL K).2, qL)]
theorem tabs_L {K : PySem.W.Frag} : ∀ p ∈ tabs K, p.1 = (cL K).2 → p.2 = qL := fun p hp _ => by
  obtain rfl := List.mem_singleton.mp hp
  rfl
theorem memL {K : PySem.W.Frag} : ((cL K).2, qL) ∈ tabs K := .head _
inductive SpLaw10 (K : PySem.W.Frag) : Sp where
  | mk {a : Addr} {ns : List Int} {H : Hp} {Q : VK} {E : XK} (hl : ns.length ≤ 63) (hb : ∀ z ∈ ns, Builtin.Int.intBits z ≤ 1048576) (hS : SqL K H a (ns.map V.int)) (hT : Tabs (tabs K) H) (q : ∀ H', Q (.bl true) H') : SpLaw10 K [.ref a] H Q E
inductive CeI (a : Addr) (H : Hp) : L2.St → Hp → Prop where
  | mk {H' : Hp} {l : Addr} {ms : List Int} (sm : Same H H') (el : H' l = some (.lst (ms.map V.int))) : CeI a H ([some (.ref a), some (.ref l)] ++ List.replicate 18 none) H'
theorem cut_refs (ps : List (Addr × Brick)) (lo hi : Option Int) : ∃ qs, cutV (refs ps) lo hi = refs qs ∧ (∀ q ∈ qs, q ∈ ps) ∧ qs.length ≤ ps.length := by
  unfold cutV refs
  refine ⟨_, cut_map _ ps _ _, fun q hq => List.mem_of_mem_drop (List.mem_of_mem_take hq), ?_⟩
  rw [List.length_take, List.length_drop]
  omega
/-- all but two lists and the tables stay -/
def Gw (la lg : Addr) (H H' : Hp) : Prop := ∀ b o, H b = some o → b ≠ la → b ≠ lg → (∀ ps, o ≠ .tbl ps) → H' b = some o
section
variable {la lg : Addr} {H H1 H2 : Hp} {xa xg : List V}
theorem Gw.trans (h : Gw la lg H H1) (k : Gw la lg H1 H2) : Gw la lg H H2 := fun b o e n m t => k b o (h b o e n m t) n m t
theorem Gw.ext (e : ExtN H H1) : Gw la lg H H1 := fun b o h _ _ n => e b o h n
theorem Gw.same (e : Same H H1) : Gw la lg H H1 := fun b o h _ _ _ => e b o h
theorem Gw.a {o : HO} : Gw la lg H (upd H la o) := fun b _ e n _ _ => (upd_ne n).trans e
theorem Gw.g {o : HO} : Gw la lg H (upd H lg o) := fun b _ e _ n _ => (upd_ne n).trans e
theorem Gw.tup {b : Addr} {xs : List V} (R : Gw la lg H H1) (ea : H la = some (.lst xa)) (eg : H lg = some (.lst xg)) (h : H b = some (.tup xs)) : H1 b = some (.tup xs) :=
  R b _ h (fun z => by rw [z, ea] at h; cases h) (fun z => by rw [z, eg] at h; cases h) (fun _ z => by cases z)
theorem Gw.kp {f : Addr} {F : LF} (R : Gw la lg H H1) (ea : H la = some (.lst xa)) (eg : H lg = some (.lst xg)) (h : Kp f F H) : Kp f F H1 := by
  have n1 : ∀ {a : Addr} {ys : List V}, H a = some (.lst ys) → f ≠ a := fun {a ys} e z => by
    have k := h.f
    rw [z, e] at k
    unfold LamO at k
    cases k
  have n2 : ∀ {a : Addr} {ys : List V}, H a = some (.lst ys) → F.c ≠ a := fun {a ys} e z => by
    have k := h.c
    rw [z, e] at k
    unfold CodeO at k
    cases k
  exact ⟨R _ _ h.f (n1 ea) (n1 eg) lamO_ne, R _ _ h.c (n2 ea) (n2 eg) codeO_ne⟩
end
/-- a list of bricks -/
def BrL (H : Hp) (l : Addr) : Prop := ∃ ps : List (Addr × Brick), H l = some (.lst (refs ps)) ∧ BrT H ps ∧ ps.length ≤ 1000
structure AskAt (cells : List (Str × Addr)) (la lg lb : Addr) (H : Hp) (t : Addr) : Prop where
  ex : ∃ f c lo, H t = some (.tup [.ref f, .ref lb, .ref lo]) ∧ Kp f (lf qL cells eD c) H ∧ BrL H lo ∧ lo ≠ la ∧ lo ≠ lg
structure FreeAt (cells : List (Str × Addr)) (la lg lb : Addr) (H : Hp) (t : Addr) : Prop where
  ex : ∃ f c h d lo, H t = some (.tup [.ref f, .ref h, .ref lb, .ref lo]) ∧ Kp f (lf qL cells eJ c) H ∧ Kp h (lf qL cells eW d) H ∧ BrL H lo ∧ lo ≠ la ∧ lo ≠ lg
section
variable {la lg lb : Addr} {H H1 H2 : Hp} {xa xg : List V} {cells : List (Str × Addr)} {t l : Addr}
theorem Gw.brl (R : Gw la lg H H1) (ea : H la = some (.lst xa)) (eg : H lg = some (.lst xg)) (h : BrL H l) (n1 : l ≠ la) (n2 : l ≠ lg) : BrL H1 l := by
  obtain ⟨ps, e, b, n⟩ := h
  exact ⟨ps, R _ _ e n1 n2 (fun _ z => by cases z), fun p hp => R.tup ea eg (b p hp), n⟩
theorem Gw.ask (R : Gw la lg H H1) (ea : H la = some (.lst xa)) (eg : H lg = some (.lst xg)) (h : AskAt cells la lg lb H t) : AskAt cells la lg lb H1 t := by
  obtain ⟨f, c, lo, h1, h2, h3, h4, h5⟩ := h.ex
  exact ⟨f, c, lo, R.tup ea eg h1, R.kp ea eg h2, R.brl ea eg h3 h4 h5, h4, h5⟩
theorem Gw.free (R : Gw la lg H H1) (ea : H la = some (.lst xa)) (eg : H lg = some (.lst xg)) (h : FreeAt cells la lg lb H t) : FreeAt cells la lg lb H1 t := by
  obtain ⟨f, c, g, d, lo, h1, h2, h2', h3, h4, h5⟩ := h.ex
  exact ⟨f, c, g, d, lo, R.tup ea eg h1, R.kp ea eg h2, R.kp ea eg h2', R.brl ea eg h3 h4 h5, h4, h5⟩
theorem BrL.mono (h : BrL H l) (sm : Same H H1) : BrL H1 l := by
  obtain ⟨ps, e, b, n⟩ := h
  exact ⟨ps, sm _ _ e, b.mono sm, n⟩
theorem AskAt.mono (h : AskAt cells la lg lb H t) (sm : Same H H1) : AskAt cells la lg lb H1 t := by
  obtain ⟨f, c, lo, h1, h2, h3, h4⟩ := h.ex
  exact ⟨f, c, lo, sm _ _ h1, h2.mono sm, h3.mono sm, h4⟩
theorem FreeAt.mono (h : FreeAt cells la lg lb H t) (sm : Same H H1) : FreeAt cells la lg lb H1 t := by
  obtain ⟨f, c, g, d, lo, h1, h2, h2', h3, h4⟩ := h.ex
  exact ⟨f, c, g, d, lo, sm _ _ h1, h2.mono sm, h2'.mono sm, h3.mono sm, h4⟩
end
theorem tabs_lst {T : List (Addr × Str)} {H : Hp} {F : Addr} {xs ys : List V} (hT : Tabs T H) (e : H F = some (.lst xs)) : Tabs T (upd H F (.lst ys)) := fun p hp => by
  obtain ⟨ps, a1, a2, a3⟩ := hT p hp
  refine ⟨ps, ?_, a2, fun pos cv h => ?_⟩
  · rw [upd_ne (fun z => by rw [z, e] at a1; cases a1)]
    exact a1
  · obtain ⟨c, e1, e2⟩ := a3 pos cv h
    refine ⟨c, e1, ?_⟩
    rw [upd_ne (fun z => by
      rw [z, e] at e2
      unfold CodeO at e2
      cases e2)]
    exact e2
theorem ext_lst {H H1 : Hp} {a : Addr} {xs : List V} (e : ExtN H H1) (h : H a = some (.lst xs)) : H1 a = some (.lst xs) := e _ _ h (fun _ z => by cases z)
theorem ext_tup {H H1 : Hp} {a : Addr} {xs : List V} (e : ExtN H H1) (h : H a = some (.tup xs)) : H1 a = some (.tup xs) := e _ _ h (fun _ z => by cases z)
theorem Kp.ext {f : Addr} {F : LF} {H H' : Hp} (h : Kp f F H) (e : ExtN H H') : Kp f F H' := ⟨e _ _ h.f lamO_ne, e _ _ h.c codeO_ne⟩
theorem kp_lst {f l : Addr} {F : LF} {H : Hp} {xs : List V} {o : HO} (h : Kp f F H) (e : H l = some (.lst xs)) : Kp f F (upd H l o) := h.but (m := l) But.upd e
inductive LpI (cells : List (Str × Addr)) (K : PySem.W.Frag) (a l la lg lb l1 l2 l3 T : Addr) (m wi hi : Int) (xs : List V) (i : Nat) : L2.St → Hp → Prop where
  | mk {H : Hp} {as gs : List Addr} {y13 y14 : Option V} (ea : H la = some (.lst (as.map V.ref))) (eg : H lg = some (.lst (gs.map V.ref))) (ha : ∀ t ∈ as, AskAt cells la lg lb H t) (hg : ∀ t ∈ gs, FreeAt cells la lg lb H t) (na : as.length = i) (ng : gs.length = i)
      (hT : Tabs (tabs K) H) (eT : H T = some (.tup xs)) (hls : ∀ z, V.ref z ∈ V.ref lb :: xs → BrL H z) :
      LpI cells K a l la lg lb l1 l2 l3 T m wi hi xs i [some (.ref a), some (.ref l), some (.int m), some (.ref la), some (.ref lg), some (.int wi), some (.int hi), some (.int (3 * wi)), some (.int (2 * hi)), some (.ref lb), some (.ref l1), some (.ref l2), some (.ref l3), y13, y14, none, none, none, none, none] H
theorem all_true (n : Nat) : (List.replicate n true).all id = true := by
  rw [List.all_eq_true]
  intro x hx
  rw [List.eq_of_mem_replicate hx]
  rfl
section
variable {P : Program} {w : World} {K : PySem.W.Frag} {mg : Str → Option Value} {base : Heap}
theorem H_law (p : PlC K mg "law" s_law (cL K).1) (B : Bi mg) (TB : TabB base mg (cL K).1 (cL K).2) (okJ : ∀ f q cells c, LOk P w K mg base CX0 4 f (lf q cells eJ c) ["_law_it"] frs10 (SpAskJ K)) (okW : ∀ f q cells c, LOk P w K mg base CX0 4 f (lf q cells eW c) ["_law_found", "_law_it"] frs10 (SpWord K))
    (okD : ∀ f q cells c, LOk P w K mg base CX0 4 f (lf q cells eD c) ["_law_it"] frs10 SpAskD) (h__law_floor : Has P w K mg base CX0 6 "_law_floor" ["_law_wide", "_law_high"] SpFloor)
    (h__law_door_right : ∀ cls ws, HasL P w K mg base cls frs10 ws 5 "_law_door_right" ["_law_ask", "_law_one", "_law_other"] (SpDoor P w K mg base cls ws))
    (h__law_free_right : ∀ cls ws, HasL P w K mg base cls frs10 ws 5 "_law_free_right" ["_law_ask", "_law_holds", "_law_one", "_law_other"] (SpFree P w K mg base cls ws)) : Has P w K mg base CX0 7 "law" ["_law_script"] (SpLaw10 K) := by
  refine p.mk0 sc_law (fun _ _ _ _ _ _ us hl => match us, hl with | [_], _ => rfl) (fun vs H Q E h => ?_) (fun f A outer s H vs Q E hr h => ?_)
  · cases h; rfl
  · obtain @⟨a, ns, _, _, _, hl, hbits, hS, hT, q⟩ := h
    have hmT := memL (K := K)
    have hu := tabs_L (K := K)
    refine ⟨_, (Evl.pss_cut (ps_set (i := 1) sc_law.nd rfl (Or.inl rfl) (pe_ifExp (pt_cmpR (r := rNeD K) (op_neD hr.units) (pv 0) (pe_lst pa_nil) (nomark _)) (pe_slice (r := rSlL K) sl_list (pv 0) po_none (po_some pe_int)) (pe_lst (pa_cons pe_int pa_nil))))
      (pss_cons (ps_set (i := 2) sc_law.nd rfl (Or.inl rfl) (pe_callB call_abs (by rfl) B.abs (by decide +kernel) (pa_cons (pe_callB (cr_sum rfl) (by rfl) B.sum (by decide +kernel) (pa_cons (pv 1) pa_nil)) pa_nil)))
      (pss_cons (ps_par (i := 3) (j := 4) (by rfl) sc_law.nd rfl rfl (by decide) rfl rfl (pa_cons (pe_lst pa_nil) (pa_cons (pe_lst pa_nil) pa_nil)) (by rfl))
      (pss_cons (ps_asg (pe_tup (pa_cons (pe_op op_add pe_int (pe_op op_mod (pv 2) pe_int)) (pa_cons (pe_op op_add pe_int (pe_op op_mod (pe_op op_fdivW (pv 2) pe_int) pe_int)) pa_nil))) (pg_tup (by rfl) (pgs_cons (pg_name (i := 5) sc_law.nd rfl (Or.inr rfl)) (pgs_cons (pg_name (i := 6) sc_law.nd rfl (Or.inl rfl)) pgs_nil))))
      (pss_cons (ps_asg (pe_tup (pa_cons (pe_op op_mulX pe_int (pv 5)) (pa_cons (pe_op op_mulX pe_int (pv 6)) pa_nil))) (pg_tup (by rfl) (pgs_cons (pg_name (i := 7) sc_law.nd rfl (Or.inr rfl)) (pgs_cons (pg_name (i := 8) sc_law.nd rfl (Or.inr rfl)) pgs_nil))))
      (pss_cons (ps_set (i := 9) sc_law.nd rfl (Or.inl rfl) (pe_fn h__law_floor (hr.mono (by decide)) pass0 (pa_cons (pv 5) (pa_cons (pv 6) pa_nil))))
      (pss_cons (ps_par (i := 10) (j := 11) (by rfl) sc_law.nd rfl rfl (by decide) rfl rfl (pa_cons (pe_op op_cat (pe_slice (r := rSlL K) sl_list (pv 9) (po_some pe_int) po_none) (pe_slice (r := rSlL K) sl_list (pv 9) (po_some (pe_un un_neg pe_int)) po_none)) (pa_cons (pe_slice (r := rSlL K) sl_list (pv 9) (po_some pe_int) po_none) pa_nil)) (by rfl))
      (pss_cons (ps_setLc (i := 12) (own := [("_law_brick", 15)]) (by rfl) sc_law.nd rfl rfl (sw_true rfl rfl rfl (by decide +kernel)) (pi_list (pv 9)) (blkOk_by (own := [("_law_brick", 15)]) (N := ["_law_script", "_law_cells", "_law_more", "_law_asks", "_law_frees", "_law_wide", "_law_high", "_law_length", "_law_up", "_law_bricks", "_law_twice", "_law_fewer", "_law_beyond", "_law_others", "_law_word", "_law_brick", "_law_ask", "_law_one", "_law_other", "_law_holds"]) (sc := defScope s_law) (by decide +kernel)) (fun _ _ _ _ _ => (pg_name (i := 15) sc_law.nd rfl (Or.inl rfl))) (fun _ _ _ _ _ => pts_nil) (fun _ _ _ _ _ => (pe_tup (pa_cons (pe_op op_add (pe_ix (r := rIxT K) ix_tup (pv 15) pe_int (fun _ _ => rfl)) (pe_op op_mulX pe_int (pv 5))) (pa_cons (pe_ix (r := rIxT K) ix_tup (pv 15) pe_int (fun _ _ => rfl)) (pa_cons (pe_ix (r := rIxT K) ix_tup (pv 15) pe_int (fun _ _ => rfl)) pa_nil))))))
      (pss_cons (ps_for PassesOwn.never (by rfl) (pi_tup (pe_tup (pa_cons (pv 10) (pa_cons (pv 11) (pa_cons (pv 12) (pa_cons (pe_revL (pv 9)) pa_nil)))))) (pg_name (i := 13) sc_law.nd rfl (Or.inl rfl)) (pss_cons (ps_set (i := 14) sc_law.nd rfl (Or.inl rfl) (pe_lamp TB rfl hmT hu rfl (ndef_free (sc := defScope s_law) (fr := []) (by decide +kernel))))
      (pss_cons (ps_expr (pe_bm PySem.F.plainAttrs_list PySem.F.slot_list_append PySem.F.type_list_append mt_append (pv 4) (pa_cons (pe_tup (pa_cons (pe_lamp TB rfl hmT hu rfl (ndef_free (sc := defScope s_law) (fr := []) (by decide +kernel))) (pa_cons (pv 14) (pa_cons (pv 9) (pa_cons (pv 13) pa_nil))))) pa_nil)))
      (pss_one (ps_expr (pe_bm PySem.F.plainAttrs_list PySem.F.slot_list_append PySem.F.type_list_append mt_append (pv 3) (pa_cons (pe_tup (pa_cons (pe_lamp TB rfl hmT hu rfl (ndef_free (sc := defScope s_law) (fr := []) (by decide +kernel))) (pa_cons (pv 9) (pa_cons (pv 13) pa_nil)))) pa_nil)))))))
      (pss_cons (ps_if (pt_not (pt_val (pe_callB (cr_all rfl) (by rfl) B.all (by decide +kernel) (pa_cons (pe_lcI (own := [("_law_ask", 16), ("_law_one", 17), ("_law_other", 18)]) (g := (gTup K 3 (gCons (gName 16) (gCons (gName 17) (gCons (gName 18) gNil))))) (by rfl) sc_law.nd (pi_list (pv 3)) (blkOk_by (own := [("_law_ask", 16), ("_law_one", 17), ("_law_other", 18)]) (N := ["_law_script", "_law_cells", "_law_more", "_law_asks", "_law_frees", "_law_wide", "_law_high", "_law_length", "_law_up", "_law_bricks", "_law_twice", "_law_fewer", "_law_beyond", "_law_others", "_law_word", "_law_brick", "_law_ask", "_law_one", "_law_other", "_law_holds"]) (sc := defScope s_law) (by decide +kernel)) (fun _ _ _ _ _ => (pg_tup (by rfl) (pgs_cons (pg_name (i := 16) sc_law.nd rfl (Or.inl rfl)) (pgs_cons (pg_name (i := 17) sc_law.nd rfl (Or.inl rfl)) (pgs_cons (pg_name (i := 18) sc_law.nd rfl (Or.inl rfl)) pgs_nil))))) (elt_fnS (own := [("_law_ask", 16), ("_law_one", 17), ("_law_other", 18)]) (scs := [lamS eD]) (fr := frs10) (js := [7, 8]) (defScope s_law) rfl (by decide +kernel) rfl h__law_door_right (hr.mono (by decide)) (by decide) (fun _ _ _ _ _ => (pa_cons (pv 16) (pa_cons (pv 17) (pa_cons (pv 18) pa_nil)))))) pa_nil)))) (pss_one (ps_ret pe_bl)) pss_nil)
      (pss_one (ps_ret (pe_callB (cr_all rfl) (by rfl) B.all (by decide +kernel) (pa_cons (pe_lcI (own := [("_law_ask", 16), ("_law_holds", 19), ("_law_one", 17), ("_law_other", 18)]) (g := (gTup K 4 (gCons (gName 16) (gCons (gName 19) (gCons (gName 17) (gCons (gName 18) gNil)))))) (by rfl) sc_law.nd (pi_list (pv 4)) (blkOk_by (own := [("_law_ask", 16), ("_law_holds", 19), ("_law_one", 17), ("_law_other", 18)]) (N := ["_law_script", "_law_cells", "_law_more", "_law_asks", "_law_frees", "_law_wide", "_law_high", "_law_length", "_law_up", "_law_bricks", "_law_twice", "_law_fewer", "_law_beyond", "_law_others", "_law_word", "_law_brick", "_law_ask", "_law_one", "_law_other", "_law_holds"]) (sc := defScope s_law) (by decide +kernel)) (fun _ _ _ _ _ => (pg_tup (by rfl) (pgs_cons (pg_name (i := 16) sc_law.nd rfl (Or.inl rfl)) (pgs_cons (pg_name (i := 19) sc_law.nd rfl (Or.inl rfl)) (pgs_cons (pg_name (i := 17) sc_law.nd rfl (Or.inl rfl)) (pgs_cons (pg_name (i := 18) sc_law.nd rfl (Or.inl rfl)) pgs_nil)))))) (elt_fnS (own := [("_law_ask", 16), ("_law_holds", 19), ("_law_one", 17), ("_law_other", 18)]) (scs := [lamS eJ, lamS eW]) (fr := frs10) (js := [7, 8]) (defScope s_law) rfl (by decide +kernel) rfl h__law_free_right (hr.mono (by decide)) (by decide) (fun _ _ _ _ _ => (pa_cons (pv 16) (pa_cons (pv 19) (pa_cons (pv 17) (pa_cons (pv 18) pa_nil))))))) pa_nil)))))))))))))), ?_⟩
    refine ⟨CeI a H, ?_, ?_⟩
    · walk_at "rd"
      intro l0 hl0
      generalize hH1 : upd H l0 _ = H1
      obtain ⟨sm1, up1⟩ : Same H H1 ∧ H1 l0 = some (.lst []) := newH hH1 hl0
      clear hH1
      refine ⟨_, _, .lst (sm1.seq hS) (dp_ints ns), .lst (sqL up1) .nil, shp_ints _, rfl, ?_⟩
      generalize (!PyData.eqv _ _) = bb
      cases bb with
      | true =>
        refine ⟨true, rfl, iteT ?_⟩
        obtain ⟨ms, ems⟩ := cut_ints ns none (some 63)
        refine ⟨_, rfl, 63, rfl, a, _, rfl, sm1.seq hS, fun p1 hp1 => ?_⟩
        exact .mk (ms := ms) (sm1.trans (same_upd hp1)) (by rw [← ems]; exact upd_same)
      | false =>
        refine ⟨false, rfl, iteF ?_⟩
        walk_at "rd"
        intro p1 hp1
        exact .mk (ms := [5]) (sm1.trans (same_upd hp1)) upd_same
    · rintro _ H1 @⟨_, l, ms, sm1, el⟩
      show tSeq _ _ _ _ _
      refine ⟨_, rfl, l, ms, rfl, sqL el, ?_⟩
      generalize hwh : ms.sum = wh
      walk_at "rd"
      generalize hm : (if wh < 0 then -wh else wh) = m
      have m0 : 0 ≤ m := by
        rw [← hm]
        split <;> omega
      walk_at "rd"
      intro la hla
      generalize hH2 : upd H1 la _ = H2
      obtain ⟨sm2, upa2⟩ : Same H1 H2 ∧ H2 la = some (.lst []) := newH hH2 hla
      clear hH2
      walk_at "rd"
      intro lg hlg
      generalize hH3 : upd H2 lg _ = H3
      obtain ⟨sm3, upg3⟩ : Same H2 H3 ∧ H3 lg = some (.lst []) := newH hH3 hlg
      clear hH3
      have ela3 := sm3 _ _ upa2
      have nag : la ≠ lg := ne_none upa2 hlg
      have w0 : 0 < 1 + m % 3 ∧ 1 + m % 3 ≤ 3 := by omega
      have h0 : 0 < 1 + m / 3 % 3 ∧ 1 + m / 3 % 3 ≤ 3 := by omega
      walk_at "rd"
      dsimp only
      generalize 1 + m % 3 = wi at w0 ⊢
      generalize 1 + m / 3 % 3 = hi at h0 ⊢
      intro t4 ht4
      generalize hH4 : upd H3 t4 _ = H4
      obtain ⟨sm4, up4⟩ : Same H3 H4 ∧ H4 t4 = some (.tup [.int wi, .int hi]) := newH hH4 ht4
      clear hH4
      have cm3 : CMulX 3 wi := Bn.mulOk (n := 10) (m := 10) (bnl (by decide)) (bnl (by omega)) (by decide)
      have cm2 : CMulX 2 hi := Bn.mulOk (n := 10) (m := 10) (bnl (by decide)) (bnl (by omega)) (by decide)
      refine ⟨t4, _, rfl, sqT up4, rfl, ?_⟩
      walk_at "rd"
      intro t5 ht5
      generalize hH5 : upd H4 t5 _ = H5
      obtain ⟨sm5, up5⟩ : Same H4 H5 ∧ H5 t5 = some (.tup [.int (3 * wi), .int (2 * hi)]) := newH hH5 ht5
      clear hH5
      refine ⟨t5, _, rfl, sqT up5, rfl, ?_⟩
      walk_at "rd"
      refine .mk w0.1 w0.2 h0.1 h0.2 fun lb ps H6 nlb sm6 eb6 hb6 hn6 => ?_
      walk_at "rd"
      obtain ⟨q1, eq1, sub1, len1⟩ := cut_refs ps (some 1) none
      obtain ⟨q2, eq2, sub2, len2⟩ := cut_refs ps (some (-1)) none
      refine ⟨lb, _, rfl, sqL eb6, fun l7 hl7 => ?_⟩
      generalize hH7 : upd H6 l7 _ = H7
      obtain ⟨sm7, up7⟩ : Same H6 H7 ∧ H7 l7 = some (.lst (refs q1)) := by rw [← eq1]; exact newH hH7 hl7
      clear hH7
      walk_at "rd"
      refine ⟨lb, _, rfl, sqL (sm7 _ _ eb6), fun l8 hl8 => ?_⟩
      generalize hH8 : upd H7 l8 _ = H8
      obtain ⟨sm8, up8⟩ : Same H7 H8 ∧ H8 l8 = some (.lst (refs q2)) := by rw [← eq2]; exact newH hH8 hl8
      clear hH8
      refine ⟨l7, l8, _, _, rfl, rfl, sm8 _ _ up7, up8, size4 (by rw [refs_len, refs_len]; omega), fun l9 hl9 => ?_⟩
      generalize hH9 : upd H8 l9 _ = H9
      obtain ⟨sm9, up9⟩ : Same H8 H9 ∧ H9 l9 = some (.lst (refs (q1 ++ q2))) := by rw [refs_app]; exact newH hH9 hl9
      clear hH9
      have s69 := sm7.trans (sm8.trans sm9)
      walk_at "rd"
      refine ⟨lb, _, rfl, sqL (s69 _ _ eb6), fun la1 hla1 => ?_⟩
      generalize hHa : upd H9 la1 _ = Ha
      obtain ⟨sma, upa⟩ : Same H9 Ha ∧ Ha la1 = some (.lst (refs q1)) := by rw [← eq1]; exact newH hHa hla1
      clear hHa
      have s6a := s69.trans sma
      have eba := s6a _ _ eb6
      have hba := hb6.mono s6a
      walk_at "rd"
      refine ⟨⟨_, sqL eba⟩, fun D hD => ?_⟩
      refine lc_list (K := K) (a := lb) (xs := refs ps) (fun j H' => Same Ha H' ∧ ∃ ds, H' D = some (.lst (refs ds)) ∧ BrT H' ds ∧ ds.length = j) ⟨same_upd hD, [], upd_same, (fun _ z => nomatch z), rfl⟩ (fun j H' _ ⟨sm, _⟩ => sqL (sm _ _ eba)) ?_ ?_
      · rintro j x Hb hj ⟨smb, ds, eD, hds, nds⟩
        obtain ⟨⟨p, b⟩, hp, rfl⟩ : ∃ p ∈ ps, x = .ref p.1 := by
          have z := List.mem_of_getElem? hj
          unfold refs at z
          obtain ⟨p, hp, e⟩ := List.mem_map.mp z
          exact ⟨p, hp, e.symm⟩
        have hpb := smb _ _ (hba _ hp)
        have nj : j < 1000 := by
          have z := (List.getElem?_eq_some_iff.mp hj).1
          rw [refs_len] at z
          omega
        refine ⟨rfl, lc_yes ?_⟩
        refine ⟨_, rfl, p, _, 0, _, rfl, rfl, sqT hpb, rfl, ?_⟩
        walk_at "rd"
        refine ⟨p, _, 1, _, rfl, rfl, sqT hpb, rfl, ?_⟩
        walk_at "rd"
        refine ⟨p, _, 2, _, rfl, rfl, sqT hpb, rfl, ?_⟩
        walk_at "rd"
        intro p4 hp4
        obtain ⟨acc, e1, e2, e3, e4⟩ := lc_brick (b := ⟨b.x + 3 * wi, b.y, b.l⟩) hD smb eD hds nds hp4 nj
        exact ⟨acc, e1, e2, e3, e4⟩
      rintro Hb ⟨smb, ds, eD, hds, nds⟩
      have s6b := s6a.trans smb
      have ebb := s6b _ _ eb6
      have s3b : Same H3 Hb := sm4.trans (sm5.trans (sm6.trans s6b))
      walk_at "rd"
      refine ⟨lb, _, rfl, sqL ebb, fun lr hlr => ?_⟩
      generalize hHc : upd Hb lr _ = Hc
      obtain ⟨smc, upc⟩ : Same Hb Hc ∧ Hc lr = some (.lst (refs ps.reverse)) := by
        have e : (refs ps).reverse = refs ps.reverse := by
          unfold refs
          rw [List.map_reverse]
        rw [← e]
        exact newH hHc hlr
      clear hHc
      walk_at "rd"
      intro T hTn
      generalize hHd : upd Hc T _ = Hd
      obtain ⟨smd, upd'⟩ : Same Hc Hd ∧ Hd T = some (.tup [.ref l9, .ref la1, .ref D, .ref lr]) := newH hHd hTn
      clear hHd
      have sbd := smc.trans smd
      have s3d : Same H3 Hd := s3b.trans sbd
      have s6d := s6b.trans sbd
      have lst0 : ∀ z, V.ref z ∈ [V.ref lb, .ref l9, .ref la1, .ref D, .ref lr] → BrL Hd z := fun z hz => by
        have hz' : z = lb ∨ z = l9 ∨ z = la1 ∨ z = D ∨ z = lr := by simpa using hz
        have b6 := hb6.mono s6d
        rcases hz' with rfl | rfl | rfl | rfl | rfl
        · exact ⟨ps, s6d _ _ eb6, b6, by omega⟩
        · exact ⟨q1 ++ q2, sbd _ _ (smb _ _ (sma _ _ up9)), (b6.sub sub1).app (b6.sub sub2), by rw [List.length_append]; omega⟩
        · exact ⟨q1, sbd _ _ (smb _ _ upa), b6.sub sub1, by omega⟩
        · refine ⟨ds, sbd _ _ eD, hds.mono sbd, ?_⟩
          rw [nds, refs_len]
          omega
        · exact ⟨ps.reverse, smd _ _ upc, b6.sub fun p hp => List.mem_reverse.mp hp, by rw [List.length_reverse]; omega⟩
      have nls : ∀ z, V.ref z ∈ [V.ref lb, .ref l9, .ref la1, .ref D, .ref lr] → z ≠ la ∧ z ≠ lg := fun z hz => by
        have hz' : z = lb ∨ z = l9 ∨ z = la1 ∨ z = D ∨ z = lr := by simpa using hz
        have key : ∀ {Hx : Hp} {z : Addr}, Same H3 Hx → Hx z = none → z ≠ la ∧ z ≠ lg := fun {Hx z} sm n => ⟨Ne.symm (ne_none (sm _ _ ela3) n), Ne.symm (ne_none (sm _ _ upg3) n)⟩
        have s36 : Same H3 H6 := sm4.trans (sm5.trans sm6)
        rcases hz' with rfl | rfl | rfl | rfl | rfl
        · exact key (sm4.trans sm5) nlb
        · exact key (s36.trans (sm7.trans sm8)) hl9
        · exact key (s36.trans s69) hla1
        · exact key (s36.trans s6a) hD
        · exact key s3b hlr
      have hT3 : Tabs (tabs K) Hd := hT.ext (sm1.trans (sm2.trans (sm3.trans s3d)))
      generalize hcells : (envOfC "law" (defScope s_law) s.heap.objs.size f (.ref (cL K).1)).cells = cells
      refine ⟨T, rfl, ⟨_, sqT upd'⟩, for_tup (K := K) (a := T) (xs := [.ref l9, .ref la1, .ref D, .ref lr]) (fun i σ H' => LpI cells K a l la lg lb l9 la1 D T m wi hi [.ref l9, .ref la1, .ref D, .ref lr] i σ H') (.mk (as := []) (gs := []) (s3d _ _ ela3) (s3d _ _ upg3) (fun _ z => nomatch z) (fun _ z => nomatch z) rfl rfl hT3 upd' lst0) ?_ ?_ ?_⟩
      · rintro i _ H' _ @⟨_, as, gs, y13, y14, ea, eg, ha, hg, na, ng, hT', eT, hls⟩
        exact sqT eT
      · rintro i x _ He hi' @⟨_, as, gs, y13, y14, ea, eg, ha, hg, na, ng, hTe, eT, hls⟩
        have i4 : i < 4 := (List.getElem?_eq_some_iff.mp hi').1
        obtain ⟨lo, rfl, hlo⟩ : ∃ lo, x = .ref lo ∧ V.ref lo ∈ [V.ref l9, .ref la1, .ref D, .ref lr] := by
          have z := List.mem_of_getElem? hi'
          have z' : x = .ref l9 ∨ x = .ref la1 ∨ x = .ref D ∨ x = .ref lr := by simpa using z
          rcases z' with rfl | rfl | rfl | rfl <;> exact ⟨_, rfl, z⟩
        have blo := hls lo (List.mem_cons_of_mem _ hlo)
        have nlo := nls lo (List.mem_cons_of_mem _ hlo)
        subst hcells
        refine ⟨hTe, fun fw cw Hf eNf Tf nf hfw hcw => ?_⟩
        have kw : Kp fw (lf qL (envOfC "law" (defScope s_law) s.heap.objs.size f (.ref (cL K).1)).cells eW cw) Hf := ⟨hfw, hcw⟩
        clear hfw hcw
        have eaf := ext_lst eNf ea
        have egf := ext_lst eNf eg
        walk_at "rd"
        refine ⟨tyL egf, Tf, fun fj cj Hg eNg Tg ng' hfj hcj => ?_⟩
        have kj : Kp fj (lf qL (envOfC "law" (defScope s_law) s.heap.objs.size f (.ref (cL K).1)).cells eJ cj) Hg := ⟨hfj, hcj⟩
        clear hfj hcj
        have kwg := kw.ext eNg
        have eag := ext_lst eNg eaf
        have egg := ext_lst eNg egf
        walk_at "rd"
        intro t1 ht1
        generalize hHh : upd Hg t1 _ = Hh
        obtain ⟨smh, uph⟩ : Same Hg Hh ∧ Hh t1 = some (.tup [.ref fj, .ref fw, .ref lb, .ref lo]) := newH hHh ht1
        clear hHh
        refine ⟨lg, _, _, rfl, rfl, smh _ _ egg, size3 (by rw [List.length_map]; omega), ?_⟩
        generalize hHi : upd Hh lg _ = Hi
        obtain ⟨smi, upi⟩ : Gw la lg Hh Hi ∧ Hi lg = some (.lst ((gs ++ [t1]).map V.ref)) := by
          rw [← hHi, List.map_append]
          exact ⟨.g, upd_same⟩
        have Ti : Tabs (tabs K) Hi := by rw [← hHi]; exact tabs_lst (Tg.ext smh) (smh _ _ egg)
        have eai : Hi la = some (.lst (as.map V.ref)) := by rw [← hHi, upd_ne nag]; exact smh _ _ eag
        clear hHi
        have Gi : Gw la lg He Hi := (Gw.ext eNf).trans ((Gw.ext eNg).trans ((Gw.same smh).trans smi))
        have kji := smi.kp (smh _ _ eag) (smh _ _ egg) (kj.mono smh)
        have kwi := smi.kp (smh _ _ eag) (smh _ _ egg) (kwg.mono smh)
        have t1i := smi.tup (smh _ _ eag) (smh _ _ egg) uph
        refine ⟨_, rfl, tyL eai, Ti, fun fd cd Hj eNj Tj nj hfd hcd => ?_⟩
        have kd : Kp fd (lf qL (envOfC "law" (defScope s_law) s.heap.objs.size f (.ref (cL K).1)).cells BF.eD cd) Hj := ⟨hfd, hcd⟩
        clear hfd hcd
        have eaj := ext_lst eNj eai
        have egj := ext_lst eNj upi
        walk_at "rd"
        intro t2 ht2
        generalize hHk : upd Hj t2 _ = Hk
        obtain ⟨smk, upk⟩ : Same Hj Hk ∧ Hk t2 = some (.tup [.ref fd, .ref lb, .ref lo]) := newH hHk ht2
        clear hHk
        refine ⟨la, _, _, rfl, rfl, smk _ _ eaj, size3 (by rw [List.length_map]; omega), ?_⟩
        generalize hHl : upd Hk la _ = Hl
        obtain ⟨sml, upl⟩ : Gw la lg Hk Hl ∧ Hl la = some (.lst ((as ++ [t2]).map V.ref)) := by
          rw [← hHl, List.map_append]
          exact ⟨.a, upd_same⟩
        have Tl : Tabs (tabs K) Hl := by rw [← hHl]; exact tabs_lst (Tj.ext smk) (smk _ _ eaj)
        have egl : Hl lg = some (.lst ((gs ++ [t1]).map V.ref)) := by rw [← hHl, upd_ne (Ne.symm nag)]; exact smk _ _ egj
        clear hHl
        have Gl' : Gw la lg Hi Hl := (Gw.ext eNj).trans ((Gw.same smk).trans sml)
        have G0 : Gw la lg He Hl := Gi.trans Gl'
        refine .mk (as := as ++ [t2]) (gs := gs ++ [t1]) upl egl (fun t ht => ?_) (fun t ht => ?_) (by rw [List.length_append, na]; rfl) (by rw [List.length_append, ng]; rfl) Tl (G0.tup ea eg eT) (fun z hz => G0.brl ea eg (hls z hz) (nls z hz).1 (nls z hz).2)
        · rcases List.mem_append.mp ht with h | h
          · exact G0.ask ea eg (ha t h)
          · obtain rfl := List.mem_singleton.mp h
            exact ⟨fd, cd, lo, sml.tup (smk _ _ eaj) (smk _ _ egj) upk, sml.kp (smk _ _ eaj) (smk _ _ egj) (kd.mono smk), G0.brl ea eg blo nlo.1 nlo.2, nlo.1, nlo.2⟩
        · rcases List.mem_append.mp ht with h | h
          · exact G0.free ea eg (hg t h)
          · obtain rfl := List.mem_singleton.mp h
            exact ⟨fj, cj, fw, cw, lo, Gl'.tup eai upi t1i, Gl'.kp eai upi kji, Gl'.kp eai upi kwi, G0.brl ea eg blo nlo.1 nlo.2, nlo.1, nlo.2⟩
      · rintro _ He @⟨_, as, gs, y13, y14, ea, eg, ha, hg, na, ng, hTe, eT, hls⟩
        subst hcells
        have hsd : Sides [some (.int (3 * wi)), some (.int (2 * hi))] (3 * wi) (2 * hi) := .mk (by omega) (by omega)
        have na4 : as.length = 4 := na
        have ng4 : gs.length = 4 := ng
        obtain ⟨psb, ebb', hbb', nbb'⟩ := hls lb (.head _)
        walk_at "rd"
        refine ⟨⟨_, sqL ea⟩, fun D2 hD2 => ?_⟩
        refine lc_list (K := K) (a := la) (xs := as.map V.ref) (fun j H' => Same He H' ∧ H' D2 = some (.lst ((List.replicate j true).map V.bl))) ⟨same_upd hD2, upd_same⟩ (fun j H' _ ⟨sm, _⟩ => sqL (sm _ _ ea)) ?_ ?_
        · rintro j x Hf hj ⟨smf, eD2⟩
          have nj : j < 1000 := by
            have z := (List.getElem?_eq_some_iff.mp hj).1
            rw [List.length_map] at z
            omega
          obtain ⟨t, htm, rfl⟩ := List.mem_map.mp (List.mem_of_getElem? hj)
          obtain ⟨fd, cd, lo, ht, kd, ⟨pso, elo, hlo, nlo⟩, _⟩ := ((ha t htm).mono smf).ex
          refine ⟨t, _, rfl, sqT ht, rfl, ?_⟩
          walk_at "rd"
          refine .mk hsd (okD _ _ _ _) (.head _) kd (smf _ _ ebb') (hbb'.mono smf) nbb' elo hlo nlo fun Hg smg => ?_
          refine ⟨_, smg _ _ eD2, size3 (by rw [List.length_map, List.length_replicate]; omega), same_mut2 (smf.trans smg) hD2, ?_⟩
          rw [upd_same, List.replicate_succ', List.map_append]
          rfl
        rintro Hf ⟨smf, eD2⟩
        refine ⟨D2, _, rfl, sqL eD2, ?_⟩
        rw [all_true]
        walk_at "rd"
        have eg' := smf _ _ eg
        refine ⟨⟨_, sqL eg'⟩, fun D3 hD3 => ?_⟩
        refine lc_list (K := K) (a := lg) (xs := gs.map V.ref) (fun j H' => Same Hf H' ∧ H' D3 = some (.lst ((List.replicate j true).map V.bl))) ⟨same_upd hD3, upd_same⟩ (fun j H' _ ⟨sm, _⟩ => sqL (sm _ _ eg')) ?_ ?_
        · rintro j x Hg hj ⟨smg, eD3⟩
          have nj : j < 1000 := by
            have z := (List.getElem?_eq_some_iff.mp hj).1
            rw [List.length_map] at z
            omega
          obtain ⟨t, htm, rfl⟩ := List.mem_map.mp (List.mem_of_getElem? hj)
          have sfg := smf.trans smg
          obtain ⟨fj, cj, fw, cw, lo, ht, kj, kw, ⟨pso, elo, hlo, nlo⟩, _⟩ := ((hg t htm).mono sfg).ex
          refine ⟨t, _, rfl, sqT ht, rfl, ?_⟩
          walk_at "rd"
          refine .mk hsd (okJ _ _ _ _) (.head _) kj (okW _ _ _ _) (.tail _ (.head _)) kw (sfg _ _ ebb') (hbb'.mono sfg) nbb' elo hlo nlo fun Hh smh => ?_
          refine ⟨_, smh _ _ eD3, size3 (by rw [List.length_map, List.length_replicate]; omega), same_mut2 (smg.trans smh) hD3, ?_⟩
          rw [upd_same, List.replicate_succ', List.map_append]
          rfl
        rintro Hg ⟨smg, eD3⟩
        refine ⟨D3, _, rfl, sqL eD3, ?_⟩
        rw [all_true]
        exact q _
end
end BF

/-! ### what the top leaves of the classes -/
namespace BF
open PySem PySem.Spec PyProof.Rows L2
def Cl.one : Cl → Bool
  | .striped => true
  | .short => true
  | .beyond => true
  | .twice => true
  | .bare => true
  | _ => false
def Cl.zero : Cl → Bool
  | .laid => true
  | .full => true
  | _ => false
def shB (K : PySem.W.Frag) (x : Cl) : Bool := x == .answer || (He.Fa.meth x.nm "shows").ok K
def oneB (K : PySem.W.Frag) (x : Cl) : Bool := !x.one || ((He.Fa.mkr x.nm).ok K && (He.Fa.meth x.nm "__init__").ok K)
def zeroB (K : PySem.W.Frag) (x : Cl) : Bool := !x.zero || decide (PySem.W.findIn K (.ref (cl K x)) "__init__" = some (some (.builtin "object.__init__")))
def exB (K : PySem.W.Frag) : Bool := Cl.has.all (clB K) && ((Cl.has.all fun x => shB K x && (oneB K x && zeroB K x)) && true)
section
variable {K : PySem.W.Frag} {x : Cl}
theorem exB_cl (c : exB K = true) : Cl.has.all (clB K) = true := (He.ba c).1
theorem exB_all (c : exB K = true) (hx : x ∈ Cl.has) : shB K x = true ∧ oneB K x = true ∧ zeroB K x = true := by
  have a := List.all_eq_true.mp (He.ba (He.ba c).2).1 x hx
  exact ⟨(He.ba a).1, (He.ba (He.ba a).2).1, (He.ba (He.ba a).2).2⟩
theorem exB_shows (c : exB K = true) (hx : x ∈ Cl.has) (hn : (x == .answer) = false) : Meth K (cl K x) "shows" (He.ma K (cl K x) "shows") := by
  have a := (exB_all c hx).1
  unfold shB at a
  rw [hn] at a
  exact He.meth_ok a
theorem exB_one (c : exB K = true) (hx : x ∈ Cl.has) (h1 : x.one = true) : Mk K (cl K x) (He.ma K (cl K x) "__init__") ∧ Meth K (cl K x) "__init__" (He.ma K (cl K x) "__init__") := by
  have a := (exB_all c hx).2.1
  unfold oneB at a
  rw [h1] at a
  exact ⟨He.mkr_ok (He.ba a).1, He.meth_ok (He.ba a).2⟩
theorem exB_zero (c : exB K = true) (hx : x ∈ Cl.has) (h1 : x.zero = true) : PySem.W.findIn K (.ref (cl K x)) "__init__" = some (some (.builtin "object.__init__")) := by
  have a := (exB_all c hx).2.2
  unfold zeroB at a
  rw [h1] at a
  exact of_decide_eq_true a
end
end BF

namespace BF
open PySem PySem.Spec PyProof.Rows L2
/-! ### what the top leaves: each def by name -/
def d_is_number : He.DefD := ⟨("is_number", none), "is_number", "is_number", defArgs s_is_number, defBody s_is_number, defScope s_is_number, [], []⟩
def d_check_sizes : He.DefD := ⟨("check_sizes", none), "check_sizes", "check_sizes", defArgs s_check_sizes, defBody s_check_sizes, defScope s_check_sizes, [], []⟩
def d_shared : He.DefD := ⟨("shared", none), "shared", "shared", defArgs s_shared, defBody s_shared, defScope s_shared, [], []⟩
def d_parts_of : He.DefD := ⟨("parts_of", none), "parts_of", "parts_of", defArgs s_parts_of, defBody s_parts_of, defScope s_parts_of, [], []⟩
def d_is_striped : He.DefD := ⟨("is_striped", none), "is_striped", "is_striped", defArgs s_is_striped, defBody s_is_striped, defScope s_is_striped, [], []⟩
def d_what_bars : He.DefD := ⟨("what_bars", none), "what_bars", "what_bars", defArgs s_what_bars, defBody s_what_bars, defScope s_what_bars, [], []⟩
def d_cells_of : He.DefD := ⟨("cells_of", none), "cells_of", "cells_of", defArgs s_cells_of, defBody s_cells_of, defScope s_cells_of, [], []⟩
def d_is_beyond : He.DefD := ⟨("is_beyond", none), "is_beyond", "is_beyond", defArgs s_is_beyond, defBody s_is_beyond, defScope s_is_beyond, [], []⟩
def d_covers : He.DefD := ⟨("covers", none), "covers", "covers", defArgs s_covers, defBody s_covers, defScope s_covers, [], []⟩
def d_is_cell : He.DefD := ⟨("is_cell", none), "is_cell", "is_cell", defArgs s_is_cell, defBody s_is_cell, defScope s_is_cell, [], []⟩
def d_often : He.DefD := ⟨("often", none), "often", "often", defArgs s_often, defBody s_often, defScope s_often, [], []⟩
def d_Full_shows : He.DefD := ⟨("Full", some "shows"), "shows", "Full.shows", defArgs s_Full_shows, defBody s_Full_shows, defScope s_Full_shows, [], []⟩
def d_Beyond___init__ : He.DefD := ⟨("Beyond", some "__init__"), "__init__", "Beyond.__init__", defArgs s_Beyond___init__, defBody s_Beyond___init__, defScope s_Beyond___init__, [], []⟩
def d_Beyond_shows : He.DefD := ⟨("Beyond", some "shows"), "shows", "Beyond.shows", defArgs s_Beyond_shows, defBody s_Beyond_shows, defScope s_Beyond_shows, [], []⟩
def d_Twice___init__ : He.DefD := ⟨("Twice", some "__init__"), "__init__", "Twice.__init__", defArgs s_Twice___init__, defBody s_Twice___init__, defScope s_Twice___init__, [], []⟩
def d_Twice_shows : He.DefD := ⟨("Twice", some "shows"), "shows", "Twice.shows", defArgs s_Twice_shows, defBody s_Twice_shows, defScope s_Twice_shows, [], []⟩
def d_Bare___init__ : He.DefD := ⟨("Bare", some "__init__"), "__init__", "Bare.__init__", defArgs s_Bare___init__, defBody s_Bare___init__, defScope s_Bare___init__, [], []⟩
def d_Bare_shows : He.DefD := ⟨("Bare", some "shows"), "shows", "Bare.shows", defArgs s_Bare_shows, defBody s_Bare_shows, defScope s_Bare_shows, [], []⟩
def d_is_brick : He.DefD := ⟨("is_brick", none), "is_brick", "is_brick", defArgs s_is_brick, defBody s_is_brick, defScope s_is_brick, [], []⟩
def d_judged : He.DefD := ⟨("judged", none), "judged", "judged", defArgs s_judged, defBody s_judged, defScope s_judged, [], []⟩
def d_check_laid : He.DefD := ⟨("check_laid", none), "check_laid", "check_laid", defArgs s_check_laid, defBody s_check_laid, defScope s_check_laid, [], []⟩
def d_plan : He.DefD := ⟨("plan", none), "plan", "plan", defArgs s_plan, defBody s_plan, defScope s_plan, [], []⟩
def d_brick_on : He.DefD := ⟨("brick_on", none), "brick_on", "brick_on", defArgs s_brick_on, defBody s_brick_on, defScope s_brick_on, [], []⟩
def d__law_copied : He.DefD := ⟨("_law_copied", none), "_law_copied", "_law_copied", defArgs s__law_copied, defBody s__law_copied, defScope s__law_copied, [], []⟩
def d__law_spoiled : He.DefD := ⟨("_law_spoiled", none), "_law_spoiled", "_law_spoiled", defArgs s__law_spoiled, defBody s__law_spoiled, defScope s__law_spoiled, [], []⟩
def d__law_laid : He.DefD := ⟨("_law_laid", none), "_law_laid", "_law_laid", defArgs s__law_laid, defBody s__law_laid, defScope s__law_laid, [], []⟩
def d__law_door_right : He.DefD := ⟨("_law_door_right", none), "_law_door_right", "_law_door_right", defArgs s__law_door_right, defBody s__law_door_right, defScope s__law_door_right, [], []⟩
def d__law_floor : He.DefD := ⟨("_law_floor", none), "_law_floor", "_law_floor", defArgs s__law_floor, defBody s__law_floor, defScope s__law_floor, [], []⟩
def d__law_told : He.DefD := ⟨("_law_told", none), "_law_told", "_law_told", defArgs s__law_told, defBody s__law_told, defScope s__law_told, [], []⟩
def d__law_free_right : He.DefD := ⟨("_law_free_right", none), "_law_free_right", "_law_free_right", defArgs s__law_free_right, defBody s__law_free_right, defScope s__law_free_right, [], []⟩
def d_law : He.DefD := ⟨("law", none), "law", "law", defArgs s_law, defBody s_law, defScope s_law, [], []⟩
def fns : List He.DefD := [d_is_number, d_check_sizes, d_shared, d_parts_of, d_is_striped, d_what_bars, d_cells_of, d_is_beyond, d_covers, d_is_cell, d_often, d_Full_shows, d_Beyond___init__, d_Beyond_shows, d_Twice___init__, d_Twice_shows, d_Bare___init__, d_Bare_shows, d_is_brick, d_judged, d_check_laid, d_plan, d_brick_on, d__law_copied, d__law_spoiled, d__law_laid, d__law_door_right, d__law_floor, d__law_told, d__law_free_right, d_law]
def fas : List He.Fa := [.glo "is_number", .glo "check_sizes", .glo "shared", .glo "parts_of", .glo "is_striped", .glo "what_bars", .glo "cells_of", .glo "is_beyond", .glo "covers", .glo "is_cell", .glo "often", .glo "is_brick", .glo "judged", .glo "check_laid", .glo "plan", .glo "brick_on", .glo "_law_copied", .glo "_law_spoiled", .glo "_law_laid", .glo "_law_door_right", .glo "_law_floor", .glo "_law_told", .glo "_law_free_right", .glo "law", .free "ValueError", .free "abs", .free "all", .free "any", .free "bool", .free "enumerate", .free "int", .free "isinstance", .free "len", .free "list", .free "range", .free "sum", .free "tuple", .int "MOST" 400]
def loose0 : List PySem.Str := ["FloorError", "BadSize", "BadCell", "BadBricks", "Barred", "TooGreat", "is_number", "check_sizes", "shared", "parts_of", "Answer", "is_striped", "what_bars", "cells_of", "is_beyond", "covers", "is_cell", "often", "Full", "Beyond", "Twice", "Bare", "is_brick", "judged", "check_laid", "plan", "brick_on", "_law_copied", "_law_spoiled", "_law_laid"]
def loose1 : List PySem.Str := ["_law_door_right", "_law_floor", "_law_told", "_law_free_right", "MOST"]
def looseN : List PySem.Str := loose0 ++ loose1
def tfs : List He.Defn := [("law", none)]
abbrev R : PySem.W.OpenRow := PySem.W.OpenLaw.row PySem.Challenge.rw_brickfloor_k10_handed_stays
abbrev hk : PySem.W.Hook := He.hookX 7 fas fns [] tfs exB
def ob (s : PySem.W.SharedT) : He.AlX := He.obsX 7 fas fns [] tfs exB (HandSHeadRun.getT s)
theorem ob_eq (s : PySem.W.SharedT) : ob s = hk.obs s.abs := He.obsX_eq (HandSHeadRun.getT_eq s)
theorem run (w : World) : HandSHeadRun.RunEq R (PySem.W.view R.prog [41]) hk ob 4000 looseN w := by
  intro os
  kernel_rfl
abbrev Says (w : World) (h : Heap) (K : PySem.W.Frag) : Prop := He.SaysX fas fns [] tfs exB w h K
section
variable {w : World} {K : PySem.W.Frag} {h : Heap} {mg : Str → Option Value}
theorem pl_is_number (X : K.In h) (G : h.Ns mainGlobals mg) (c : Says w h K) : Pl K mg "is_number" s_is_number := by
  obtain ⟨fd, F⟩ := c.t.d.def_ 0 (d := d_is_number) rfl
  exact ⟨_, fd, F, He.glo_ok X G (c.t.d.fact 0 (f := .glo "is_number") rfl)⟩
theorem pl_check_sizes (X : K.In h) (G : h.Ns mainGlobals mg) (c : Says w h K) : Pl K mg "check_sizes" s_check_sizes := by
  obtain ⟨fd, F⟩ := c.t.d.def_ 1 (d := d_check_sizes) rfl
  exact ⟨_, fd, F, He.glo_ok X G (c.t.d.fact 1 (f := .glo "check_sizes") rfl)⟩
theorem pl_shared (X : K.In h) (G : h.Ns mainGlobals mg) (c : Says w h K) : Pl K mg "shared" s_shared := by
  obtain ⟨fd, F⟩ := c.t.d.def_ 2 (d := d_shared) rfl
  exact ⟨_, fd, F, He.glo_ok X G (c.t.d.fact 2 (f := .glo "shared") rfl)⟩
theorem pl_parts_of (X : K.In h) (G : h.Ns mainGlobals mg) (c : Says w h K) : Pl K mg "parts_of" s_parts_of := by
  obtain ⟨fd, F⟩ := c.t.d.def_ 3 (d := d_parts_of) rfl
  exact ⟨_, fd, F, He.glo_ok X G (c.t.d.fact 3 (f := .glo "parts_of") rfl)⟩
theorem pl_is_striped (X : K.In h) (G : h.Ns mainGlobals mg) (c : Says w h K) : Pl K mg "is_striped" s_is_striped := by
  obtain ⟨fd, F⟩ := c.t.d.def_ 4 (d := d_is_striped) rfl
  exact ⟨_, fd, F, He.glo_ok X G (c.t.d.fact 4 (f := .glo "is_striped") rfl)⟩
theorem pl_what_bars (X : K.In h) (G : h.Ns mainGlobals mg) (c : Says w h K) : Pl K mg "what_bars" s_what_bars := by
  obtain ⟨fd, F⟩ := c.t.d.def_ 5 (d := d_what_bars) rfl
  exact ⟨_, fd, F, He.glo_ok X G (c.t.d.fact 5 (f := .glo "what_bars") rfl)⟩
theorem pl_cells_of (X : K.In h) (G : h.Ns mainGlobals mg) (c : Says w h K) : Pl K mg "cells_of" s_cells_of := by
  obtain ⟨fd, F⟩ := c.t.d.def_ 6 (d := d_cells_of) rfl
  exact ⟨_, fd, F, He.glo_ok X G (c.t.d.fact 6 (f := .glo "cells_of") rfl)⟩
theorem pl_is_beyond (X : K.In h) (G : h.Ns mainGlobals mg) (c : Says w h K) : Pl K mg "is_beyond" s_is_beyond := by
  obtain ⟨fd, F⟩ := c.t.d.def_ 7 (d := d_is_beyond) rfl
  exact ⟨_, fd, F, He.glo_ok X G (c.t.d.fact 7 (f := .glo "is_beyond") rfl)⟩
theorem pl_covers (X : K.In h) (G : h.Ns mainGlobals mg) (c : Says w h K) : Pl K mg "covers" s_covers := by
  obtain ⟨fd, F⟩ := c.t.d.def_ 8 (d := d_covers) rfl
  exact ⟨_, fd, F, He.glo_ok X G (c.t.d.fact 8 (f := .glo "covers") rfl)⟩
theorem pl_is_cell (X : K.In h) (G : h.Ns mainGlobals mg) (c : Says w h K) : Pl K mg "is_cell" s_is_cell := by
  obtain ⟨fd, F⟩ := c.t.d.def_ 9 (d := d_is_cell) rfl
  exact ⟨_, fd, F, He.glo_ok X G (c.t.d.fact 9 (f := .glo "is_cell") rfl)⟩
theorem pl_often (X : K.In h) (G : h.Ns mainGlobals mg) (c : Says w h K) : Pl K mg "often" s_often := by
  obtain ⟨fd, F⟩ := c.t.d.def_ 10 (d := d_often) rfl
  exact ⟨_, fd, F, He.glo_ok X G (c.t.d.fact 10 (f := .glo "often") rfl)⟩
theorem pl_is_brick (X : K.In h) (G : h.Ns mainGlobals mg) (c : Says w h K) : Pl K mg "is_brick" s_is_brick := by
  obtain ⟨fd, F⟩ := c.t.d.def_ 18 (d := d_is_brick) rfl
  exact ⟨_, fd, F, He.glo_ok X G (c.t.d.fact 11 (f := .glo "is_brick") rfl)⟩
theorem pl_judged (X : K.In h) (G : h.Ns mainGlobals mg) (c : Says w h K) : Pl K mg "judged" s_judged := by
  obtain ⟨fd, F⟩ := c.t.d.def_ 19 (d := d_judged) rfl
  exact ⟨_, fd, F, He.glo_ok X G (c.t.d.fact 12 (f := .glo "judged") rfl)⟩
theorem pl_check_laid (X : K.In h) (G : h.Ns mainGlobals mg) (c : Says w h K) : Pl K mg "check_laid" s_check_laid := by
  obtain ⟨fd, F⟩ := c.t.d.def_ 20 (d := d_check_laid) rfl
  exact ⟨_, fd, F, He.glo_ok X G (c.t.d.fact 13 (f := .glo "check_laid") rfl)⟩
theorem pl_plan (X : K.In h) (G : h.Ns mainGlobals mg) (c : Says w h K) : Pl K mg "plan" s_plan := by
  obtain ⟨fd, F⟩ := c.t.d.def_ 21 (d := d_plan) rfl
  exact ⟨_, fd, F, He.glo_ok X G (c.t.d.fact 14 (f := .glo "plan") rfl)⟩
theorem pl_brick_on (X : K.In h) (G : h.Ns mainGlobals mg) (c : Says w h K) : Pl K mg "brick_on" s_brick_on := by
  obtain ⟨fd, F⟩ := c.t.d.def_ 22 (d := d_brick_on) rfl
  exact ⟨_, fd, F, He.glo_ok X G (c.t.d.fact 15 (f := .glo "brick_on") rfl)⟩
theorem pl__law_copied (X : K.In h) (G : h.Ns mainGlobals mg) (c : Says w h K) : Pl K mg "_law_copied" s__law_copied := by
  obtain ⟨fd, F⟩ := c.t.d.def_ 23 (d := d__law_copied) rfl
  exact ⟨_, fd, F, He.glo_ok X G (c.t.d.fact 16 (f := .glo "_law_copied") rfl)⟩
theorem pl__law_spoiled (X : K.In h) (G : h.Ns mainGlobals mg) (c : Says w h K) : Pl K mg "_law_spoiled" s__law_spoiled := by
  obtain ⟨fd, F⟩ := c.t.d.def_ 24 (d := d__law_spoiled) rfl
  exact ⟨_, fd, F, He.glo_ok X G (c.t.d.fact 17 (f := .glo "_law_spoiled") rfl)⟩
theorem pl__law_laid (X : K.In h) (G : h.Ns mainGlobals mg) (c : Says w h K) : Pl K mg "_law_laid" s__law_laid := by
  obtain ⟨fd, F⟩ := c.t.d.def_ 25 (d := d__law_laid) rfl
  exact ⟨_, fd, F, He.glo_ok X G (c.t.d.fact 18 (f := .glo "_law_laid") rfl)⟩
theorem pl__law_door_right (X : K.In h) (G : h.Ns mainGlobals mg) (c : Says w h K) : Pl K mg "_law_door_right" s__law_door_right := by
  obtain ⟨fd, F⟩ := c.t.d.def_ 26 (d := d__law_door_right) rfl
  exact ⟨_, fd, F, He.glo_ok X G (c.t.d.fact 19 (f := .glo "_law_door_right") rfl)⟩
theorem pl__law_floor (X : K.In h) (G : h.Ns mainGlobals mg) (c : Says w h K) : Pl K mg "_law_floor" s__law_floor := by
  obtain ⟨fd, F⟩ := c.t.d.def_ 27 (d := d__law_floor) rfl
  exact ⟨_, fd, F, He.glo_ok X G (c.t.d.fact 20 (f := .glo "_law_floor") rfl)⟩
theorem pl__law_told (X : K.In h) (G : h.Ns mainGlobals mg) (c : Says w h K) : Pl K mg "_law_told" s__law_told := by
  obtain ⟨fd, F⟩ := c.t.d.def_ 28 (d := d__law_told) rfl
  exact ⟨_, fd, F, He.glo_ok X G (c.t.d.fact 21 (f := .glo "_law_told") rfl)⟩
theorem pl__law_free_right (X : K.In h) (G : h.Ns mainGlobals mg) (c : Says w h K) : Pl K mg "_law_free_right" s__law_free_right := by
  obtain ⟨fd, F⟩ := c.t.d.def_ 29 (d := d__law_free_right) rfl
  exact ⟨_, fd, F, He.glo_ok X G (c.t.d.fact 22 (f := .glo "_law_free_right") rfl)⟩
theorem pl_law (X : K.In h) (G : h.Ns mainGlobals mg) (c : Says w h K) : Pl K mg "law" s_law := by
  obtain ⟨fd, F⟩ := c.t.d.def_ 30 (d := d_law) rfl
  exact ⟨_, fd, F, He.glo_ok X G (c.t.d.fact 23 (f := .glo "law") rfl)⟩
theorem plm_Full_shows (c : Says w h K) : PlM K .full "shows" "Full.shows" s_Full_shows := by
  obtain ⟨fd, F⟩ := c.t.d.def_ 11 (d := d_Full_shows) rfl
  exact ⟨_, fd, F, exB_shows c.more (by decide) (by decide)⟩
theorem plm_Beyond___init__ (c : Says w h K) : PlM K .beyond "__init__" "Beyond.__init__" s_Beyond___init__ := by
  obtain ⟨fd, F⟩ := c.t.d.def_ 12 (d := d_Beyond___init__) rfl
  exact ⟨_, fd, F, (exB_one c.more (by decide) (by decide)).2⟩
theorem plm_Beyond_shows (c : Says w h K) : PlM K .beyond "shows" "Beyond.shows" s_Beyond_shows := by
  obtain ⟨fd, F⟩ := c.t.d.def_ 13 (d := d_Beyond_shows) rfl
  exact ⟨_, fd, F, exB_shows c.more (by decide) (by decide)⟩
theorem plm_Twice___init__ (c : Says w h K) : PlM K .twice "__init__" "Twice.__init__" s_Twice___init__ := by
  obtain ⟨fd, F⟩ := c.t.d.def_ 14 (d := d_Twice___init__) rfl
  exact ⟨_, fd, F, (exB_one c.more (by decide) (by decide)).2⟩
theorem plm_Twice_shows (c : Says w h K) : PlM K .twice "shows" "Twice.shows" s_Twice_shows := by
  obtain ⟨fd, F⟩ := c.t.d.def_ 15 (d := d_Twice_shows) rfl
  exact ⟨_, fd, F, exB_shows c.more (by decide) (by decide)⟩
theorem plm_Bare___init__ (c : Says w h K) : PlM K .bare "__init__" "Bare.__init__" s_Bare___init__ := by
  obtain ⟨fd, F⟩ := c.t.d.def_ 16 (d := d_Bare___init__) rfl
  exact ⟨_, fd, F, (exB_one c.more (by decide) (by decide)).2⟩
theorem plm_Bare_shows (c : Says w h K) : PlM K .bare "shows" "Bare.shows" s_Bare_shows := by
  obtain ⟨fd, F⟩ := c.t.d.def_ 17 (d := d_Bare_shows) rfl
  exact ⟨_, fd, F, exB_shows c.more (by decide) (by decide)⟩
theorem const_MOST (X : K.In h) (G : h.Ns mainGlobals mg) (c : Says w h K) : ∃ t, mg "MOST" = some (.int 400 t) := He.int_ok X G (c.t.d.fact 37 (f := .int "MOST" 400) rfl)
theorem bi_ok (X : K.In h) (G : h.Ns mainGlobals mg) (c : Says w h K) : Bi mg := ⟨He.free_ok X G (c.t.d.fact 24 (f := .free "ValueError") rfl), He.free_ok X G (c.t.d.fact 25 (f := .free "abs") rfl), He.free_ok X G (c.t.d.fact 26 (f := .free "all") rfl), He.free_ok X G (c.t.d.fact 27 (f := .free "any") rfl), He.free_ok X G (c.t.d.fact 28 (f := .free "bool") rfl), He.free_ok X G (c.t.d.fact 29 (f := .free "enumerate") rfl), He.free_ok X G (c.t.d.fact 30 (f := .free "int") rfl), He.free_ok X G (c.t.d.fact 31 (f := .free "isinstance") rfl), He.free_ok X G (c.t.d.fact 32 (f := .free "len") rfl), He.free_ok X G (c.t.d.fact 33 (f := .free "list") rfl), He.free_ok X G (c.t.d.fact 34 (f := .free "range") rfl), He.free_ok X G (c.t.d.fact 35 (f := .free "sum") rfl), He.free_ok X G (c.t.d.fact 36 (f := .free "tuple") rfl)⟩
end
end BF

namespace BF
open PySem PySem.Spec PyProof.Rows L2
theorem ci_ok {w : World} {K : PySem.W.Frag} {h : Heap} {mg : Str → Option Value} {P : Program} {base : Heap} (X : K.In h) (G : h.Ns mainGlobals mg) (c : Says w h K) (GC : ClG K mg) : ClI P w K mg base := by
  refine ⟨fun x hx h1 => (exB_one c.more hx (by cases x <;> first | rfl | exact h1.elim)).1, fun x hx h1 => ?_, fun x hx h0 => exB_zero c.more hx (by rcases h0 with rfl | rfl <;> rfl)⟩
  cases x with
  | beyond => exact H_Beyond___init__ (plm_Beyond___init__ c) GC
  | twice => exact H_Twice___init__ (plm_Twice___init__ c) GC
  | bare => exact H_Bare___init__ (plm_Bare___init__ c) GC
  | _ => first | exact h1.elim | exact absurd hx (by decide)
end BF

namespace BF
open PySem PySem.Spec PyProof.Rows L2 LamX NdefX
def lawLevel : Nat := 7
section
variable {w : World} {K : PySem.W.Frag} {h : Heap} {mg : Str → Option Value} {P : Program} {base : Heap}
theorem plC_law (X : K.In h) (G : h.Ns mainGlobals mg) (c : Says w h K) : PlC K mg "law" s_law (cL K).1 := by
  obtain ⟨fd, F⟩ := c.t.d.def_ 30 (d := d_law) rfl
  refine ⟨_, fd, F, He.glo_ok X G (c.t.d.fact 23 (f := .glo "law") rfl), ?_⟩
  obtain ⟨oc, od, dV, kV, doc, pm, an, cdv, ct, osl, rfl, lk, hcd, _, _⟩ := F.ex
  obtain ⟨c', rfl⟩ := He.codeIn_ref hcd
  exact congrArg Value.ref (He.codeOf_eq (p := ("law", none)) lk rfl).symm
theorem has_law (X : K.In h) (G : h.Ns mainGlobals mg) (c : Says w h K) (TB : TabB base mg (cL K).1 (cL K).2) : Has P w K mg base CX0 7 "law" ["_law_script"] (SpLaw10 K) := by
  have B := bi_ok X G c
  have GC := clB_ok X G (exB_cl c.more)
  have CI := ci_ok (P := P) (base := base) X G c GC
  have M := const_MOST X G c
  have h1 := H_is_number (P := P) (w := w) (base := base) (pl_is_number X G c) B
  have h2 := H_check_sizes (pl_check_sizes X G c) h1
  have h3 := H_shared (P := P) (w := w) (base := base) (pl_shared X G c)
  have h4 := H_parts_of (pl_parts_of X G c) h3
  have h5 := H_is_striped (P := P) (w := w) (base := base) (pl_is_striped X G c)
  have h6 := H_what_bars (pl_what_bars X G c) B h5 h4
  have g1 := H_is_beyond (P := P) (w := w) (base := base) (pl_is_beyond X G c)
  have g2 := H_covers (P := P) (w := w) (base := base) (pl_covers X G c)
  have g3 := H_often (pl_often X G c) B g2
  have g4 := H_is_cell (pl_is_cell X G c) B h1
  have g5 := H_cells_of (P := P) (w := w) (base := base) (pl_cells_of X G c) B
  have g6 := H_shows5 B GC (plm_Full_shows c) (plm_Beyond_shows c) (plm_Twice_shows c) (plm_Bare_shows c) g1 g5 g4 g3
  have g7 := H_is_brick (pl_is_brick X G c) B h1
  have g8 := H_judged (pl_judged X G c) B GC CI M h2 g7 g1 g3
  have k1 := H_check_laid (pl_check_laid X G c) h2 h6
  have k2 := H_plan (pl_plan X G c) h4
  have k3 := H_brick_on (pl_brick_on X G c) k1 g4 k2
  have c0 := H0__law_copied (P := P) (w := w) (base := base) (pl__law_copied X G c) B
  have c1 := H__law_copied (pl__law_copied X G c) B c0
  have c2 := H__law_spoiled (P := P) (w := w) (base := base) (pl__law_spoiled X G c) B
  have c3 := H__law_laid (pl__law_laid X G c) B c0
  have c4 := told0 (P := P) (w := w) (base := base) (pl__law_told X G c)
  have c5 := H__law_floor (pl__law_floor X G c) B k3
  exact H_law (plC_law X G c) B TB (fun _ _ _ _ => lok_J g8) (fun _ _ _ _ => lok_W GC g6) (fun _ _ _ _ => lok_D GC CI g6) c5 (fun _ _ => H__law_door_right (pl__law_door_right X G c) c1 c2 c3) (fun _ _ => H__law_free_right (pl__law_free_right X G c) c1 c2 c3 c4)
theorem law_at {f : Addr} (X : K.In h) (G : h.Ns mainGlobals mg) (c : Says w h K) (g : mg ("law" : Str) = some (.ref f)) : LamX.LawAtS PySem.Challenge.rw_brickfloor_k10_handed_stays w K CX0 lawLevel 63 "_law_script" mg f h := by
  obtain ⟨f', fd, F, g'⟩ := pl_law X G c
  have e := g.symm.trans g'
  cases e
  have fst : (("law", none) : He.Defn) ∈ tfs := .head _
  refine ⟨fd, [cL K], SpLaw10 K, fun p hp => ?_, fun p hp => ?_, fun p hp => ?_, fun s u => FunD.bindsA (ps := ["_law_script"]) F (fun _ _ _ _ _ _ us hl => match us, hl with | [_], _ => rfl) s [u] rfl, fun H a ns hl hb hT hS => .mk hl hb hS ?_ fun _ => rfl,
    fun base hK hG hTB => (has_law X G c (hTB _ (.head _))).at F g'⟩
  · obtain rfl := List.mem_singleton.mp hp
    exact c.empty _ fst
  · obtain rfl := List.mem_singleton.mp hp
    exact c.out _ fst
  · obtain rfl := List.mem_singleton.mp hp
    exact PySem.W.codeHd_of_K X (c.hd _ fst)
  · intro p hp
    obtain rfl := List.mem_singleton.mp hp
    exact TabS.nil (hT _ (.head _))
end
end BF

open PySem PySem.W PySem.Calls PyProof.Rows
set_option maxRecDepth 100000 in
set_option maxHeartbeats 8000000 in
theorem PySem.Challenge.cw_brickfloor_k10_handed_stays_holds : PySem.Challenge.rw_brickfloor_k10_handed_stays.Holds := by
  w_on; o_law
  refine HandSHeadRun.head_any (r := OpenLaw.row PySem.Challenge.rw_brickfloor_k10_handed_stays) (q := view (OpenLaw.row PySem.Challenge.rw_brickfloor_k10_handed_stays).prog [41]) (H := BF.hk) (ob := BF.ob) (loose := BF.looseN) (d := HandSHeadRun.topDef (OpenLaw.row PySem.Challenge.rw_brickfloor_k10_handed_stays).prog 41) (kwd := []) BF.ob_eq
    (by kernel_rfl) (fun s => by kernel_rfl) BF.run (by kernel_rfl) (by kernel_rfl) (by kernel_rfl) (by rfl) (by first | assumption | decide +kernel) (by decide +kernel) ⟨rfl, rfl, rfl, rfl, rfl, by decide +kernel⟩ ?hw ?hc
  case hw => w_witness2
  case hc =>
    refine LamX.walk_ofTsE (l := PySem.Challenge.rw_brickfloor_k10_handed_stays) (n := 63) (k := BF.lawLevel) (x := "_law_script") (CX := fun _ => L2.CX0) rfl (by decide) (by kernel_rfl) ⟨rfl, by decide, by decide⟩ ?F (fun _ _ _ _ _ z => z)
    intro w mg fa h Y G hmg0
    obtain ⟨K, KX, c⟩ := Y
    have hmg : mg ("law" : PySem.Str) = some (.ref fa) := by
      have e : (HandSHeadRun.topDef (OpenLaw.row PySem.Challenge.rw_brickfloor_k10_handed_stays).prog 41).name = ("law" : PySem.Str) := by kernel_rfl
      rw [← e]
      exact hmg0
    exact ⟨K, KX, BF.law_at KX G c hmg⟩
