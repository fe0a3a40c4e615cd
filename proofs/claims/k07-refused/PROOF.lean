import PyProof.Rows.All
import Wide.All
import OpenK.AllK
import Wide.FinOn
import KE.KStateDown
import HandS.ForMost
import HandS.ForExc
import HandS.More
import HandS.Wide
import HandS.WideBits
import HandS.Style
import HandS.Flow
import HandS.Zip
import HandS.TupLen
import HandS.Deep
import HandS.IsInst
import HandS.Defaults
import HandS.Head0
import HandS.Head1
import HandS.Head2
import HandS.HeadEnd
import HandS.HeadHook1
import HandS.HeadHook2
import HandS.HeadHook3
import HandS.HeadHook4
import HandS.HeadWalk
import HandS.Evl
import KE.DataMinMax
import KE.GoesMore
import KE.KeyNested
import KE.SortData
import HandS.Conv
import HandS.ExcIs
import HandS.ExcCtx
import HandS.HotCalls
import PySem.Challenge.RW_brickfloor_k07_refused
set_option pp.maxSteps 700
set_option Elab.async false
set_option linter.all false
set_option maxRecDepth 100000
set_option maxHeartbeats 4000000
/-! ### a def of the top, where it stands, and its promise -/
namespace BF
open PySem PySem.Spec PyProof.Rows L2
abbrev FnP (K : PySem.W.Frag) (x q : Str) (st : Stmt) (f : Addr) (fd : FuncData) : Prop := FunD K x q (defArgs st) (defBody st) (defScope st) [] [] f fd
/-- the def x of the top stands where the module's name says -/
def Pl (K : PySem.W.Frag) (mg : Str → Option Value) (x : Str) (st : Stmt) : Prop := ∃ f fd, FnP K x x st f fd ∧ mg x = some (.ref f)
/-- the def x keeps its promise, by calls at most k deep -/
def Has (P : Program) (w : World) (K : PySem.W.Frag) (mg : Str → Option Value) (base : Heap) (C : CXT) (k : Nat) (x : Str) (ps : List Str) (sp : Sp) : Prop :=
  ∃ f fd, FnOk P w K mg base C k f fd ps sp ∧ mg x = some (.ref f) ∧ PySem.W.keepIn K (.ref f) = true ∧ Binds K fd ps [] ∧ ∃ oc od osl, K.lookup f = some ⟨oc, od, .func fd, osl⟩
section
variable {P : Program} {w : World} {K : PySem.W.Frag} {mg : Str → Option Value} {base : Heap} {x : Str} {st : Stmt} {N ps : List Str} {k : Nat} {sp : Sp}
theorem Pl.mkX {C : CXT} (p : Pl K mg x st) (S : FnScope N ps (defScope st))
    (hb : ∀ (kV doc pm : Value) (an : Option Addr) (cdv ct : Value) (us : List Value), us.length = ps.length → bindArgs (PySem.W.fnOf x x (defArgs st) (defBody st) (defScope st) .none kV doc pm an cdv ct) ⟨us, []⟩ = pure (ps.zip us))
    (len : ∀ vs H Q E, sp vs H Q E → vs.length = ps.length)
    (body : ∀ (f : Addr) (cdv : Value) (A : Around) (outer : List Env) (s : Shared) (H : Hp) (vs : List V) (Q : VK) (E : XK), Room k (A.deeper (envOfC x (defScope st) s.heap.objs.size f cdv)) → sp vs H Q E →
      ∃ t, PSs (cxOf C P w K mg base N x (defScope st) f cdv A outer s H E) (defBody st) t ∧ t { nx := fun _ H' => Q .non H', rt := Q } (start N vs) H) : Has P w K mg base C (k + 1) x ps sp := by
  obtain ⟨f, fd, F, g⟩ := p
  obtain ⟨oc, od, _, _, _, _, _, _, _, osl, _, lk, _⟩ := F.ex
  exact ⟨f, fd, F.ok S len (body f), g, F.kp, F.bindsN hb, oc, od, osl, lk⟩
/-- of the def at f (the law) -/
theorem Has.at {C : CXT} {f : Addr} {fd : FuncData} (h : Has P w K mg base C k x ps sp) (F : FnP K x x st f fd) (g : mg x = some (.ref f)) : FnOk P w K mg base C k f fd ps sp := by
  obtain ⟨f', fd', G, g', _, _, oc, od, osl, lk⟩ := h
  obtain ⟨oc2, od2, _, _, _, _, _, _, _, osl2, _, lk2, _⟩ := F.ex
  have e : f' = f := by
    have z := g'.symm.trans g
    cases z
    rfl
  subst e
  have z := lk.symm.trans lk2
  cases z
  exact G
theorem Pl.mk0 (p : Pl K mg x st) (S : FnScope N ps (defScope st))
    (hb : ∀ (kV doc pm : Value) (an : Option Addr) (cdv ct : Value) (us : List Value), us.length = ps.length → bindArgs (PySem.W.fnOf x x (defArgs st) (defBody st) (defScope st) .none kV doc pm an cdv ct) ⟨us, []⟩ = pure (ps.zip us))
    (len : ∀ vs H Q E, sp vs H Q E → vs.length = ps.length)
    (body : ∀ (f : Addr) (cdv : Value) (A : Around) (outer : List Env) (s : Shared) (H : Hp) (vs : List V) (Q : VK) (E : XK), Room k (A.deeper (envOfC x (defScope st) s.heap.objs.size f cdv)) → sp vs H Q E →
      ∃ t, PSs (cxOf CX0 P w K mg base N x (defScope st) f cdv A outer s H E).nox (defBody st) t ∧ t { nx := fun _ H' => Q .non H', rt := Q } (start N vs) H) : Has P w K mg base CX0 (k + 1) x ps sp :=
  p.mkX S hb len fun f cdv A outer s H vs Q E hr h => by
    obtain ⟨t, a, b⟩ := body f cdv A outer s H vs Q E hr h
    exact ⟨t, a.nox, b⟩
end
section
variable {X : Cx} {C : CXT} {k : Nat} {ps : List Str} {sp : Sp} {E : XK} {x : Str} {p pos : Pos} {e : Expr} {es : List Expr} {t : TA}
theorem pe_fn (h : Has X.prog X.w X.K X.mg X.base C k x ps sp) (hr : Room k X.A) (hx : Passes C X E) (ha : PA X (e :: es) t) (hg : Gl X x := by rfl) (hdb : (x == ("__debug__" : Str)) = false := by decide)
    (he : starEach (e :: es) X.env = (false, eval e X.env) :: starEach es X.env := by rfl) (hpl : (backTo pos (starEach es X.env)).any (·.1) = false := by rfl) : PE X (.Call (.Name x p) (e :: es) [] pos) (tCall sp [] E t) := by
  obtain ⟨f, fd, F, hm, hk, hb, _⟩ := h
  exact pe_call F hr hg hm hk hb .nil hx ha hdb he hpl
theorem pe_fn0 (h : Has X.prog X.w X.K X.mg X.base C k x ps sp) (hr : Room k X.A) (hx : Passes C X E) (hg : Gl X x := by rfl) (hdb : (x == ("__debug__" : Str)) = false := by decide) : PE X (.Call (.Name x p) [] [] pos) (tCall sp [] E tNil) := by
  obtain ⟨f, fd, F, hm, hk, hb, _⟩ := h
  exact pe_call0 F hr hg hm hk hb .nil hx hdb
end
theorem pe_const {X : Cx} {x : Str} {i : Int} {pos : Pos} (hg : Gl X x) (h : ∃ t, X.mg x = some (.int i t)) (hd : (x == ("__debug__" : Str)) = false := by decide) : PE X (.Name x pos) (tC (.int i)) := by
  obtain ⟨t, e⟩ := h
  exact pe_glob hg e ⟨_, rfl⟩ hd
/-! ### sizes of ints -/
/-- of less than n bits -/
structure Bn (n : Nat) (x : Int) : Prop where
  lt : x.natAbs < 2 ^ n
theorem Bn.mono {n m : Nat} {x : Int} (h : Bn n x) (l : n ≤ m) : Bn m x := ⟨Nat.lt_of_lt_of_le h.lt (Nat.pow_le_pow_right (by decide) l)⟩
theorem bnl {n : Nat} {x : Int} (h : x.natAbs < 2 ^ n) : Bn n x := ⟨h⟩
theorem bn0 {n : Nat} : Bn n 0 := ⟨Nat.two_pow_pos _⟩
theorem Bn.mul {n m : Nat} {x y : Int} (h : Bn n x) (k : Bn m y) : Bn (n + m) (x * y) := ⟨wide_lt h.lt k.lt⟩
theorem Bn.add {n m : Nat} {x y : Int} (h : Bn n x) (k : Bn m y) : Bn (n + m + 1) (x + y) := by
  have h1 : x.natAbs < 2 ^ n := h.lt
  have h2 : y.natAbs < 2 ^ m := k.lt
  have a : 2 ^ n ≤ 2 ^ (n + m) := Nat.pow_le_pow_right (by decide) (by omega)
  have b : 2 ^ m ≤ 2 ^ (n + m) := Nat.pow_le_pow_right (by decide) (by omega)
  have c : 2 ^ (n + m + 1) = 2 ^ (n + m) * 2 := Nat.pow_succ 2 (n + m)
  have d := Int.natAbs_add_le x y
  refine ⟨?_⟩
  omega
theorem Bn.le {n : Nat} {x y : Int} (h : Bn n y) (l : x.natAbs ≤ y.natAbs) : Bn n x := ⟨Nat.lt_of_le_of_lt l h.lt⟩
theorem Bn.of_le {n : Nat} {x y : Int} (h : Bn n y) (h0 : 0 ≤ x) (l : x ≤ y) : Bn n x := h.le (by omega)
theorem Bn.neg {n : Nat} {x : Int} (h : Bn n x) : Bn n (-x) := h.le (by omega)
theorem Bn.sub {n m : Nat} {x y : Int} (h : Bn n x) (k : Bn m y) : Bn (n + m + 1) (x - y) := by
  rw [Int.sub_eq_add_neg]
  exact h.add k.neg
theorem Bn.mulOk {n m : Nat} {x y : Int} (h : Bn n x) (k : Bn m y) (l : n + m ≤ 134217728) : CMulX x y := mulx_ok h.lt k.lt l
theorem Bn.divOk {n : Nat} {x y : Int} (k : Bn n y) (p : 0 < y) (h0 : 0 < n) (l : n ≤ 9000) : CDivW x y := wide_div p k.lt h0 l
theorem divOk_lit {x : Int} {y : Int} (p : 0 < y) (l : y < 4294967296) : CDivW x y := wide_div (b := 32) p (by omega) (by decide) (by decide)
theorem Bn.div {n : Nat} {x y : Int} (h : Bn n x) (p : 0 < y) : Bn n (x / y) := by
  refine h.le ?_
  have a := Int.emod_add_mul_ediv x y
  have b := Int.emod_nonneg x (Int.ne_of_gt p)
  have c := Int.emod_lt_of_pos x p
  rcases Int.lt_or_le x 0 with hx | hx
  · -- x < 0: x / y ≥ x
    have d : x / y < 0 := Int.ediv_neg_of_neg_of_pos hx p
    have e : y * (x / y) ≤ 1 * (x / y) := Int.mul_le_mul_of_nonpos_right (by omega) (by omega)
    rcases Int.lt_or_le (x / y) x with f | f
    · have q1 : y * (x / y) ≤ y * (x - 1) := Int.mul_le_mul_of_nonneg_left (by omega) (by omega)
      have q2 : y * (x - 1) = y * x - y := by rw [Int.mul_sub, Int.mul_one]
      have q3 : y * x ≤ 1 * x := Int.mul_le_mul_of_nonpos_right (by omega) (by omega)
      omega
    · omega
  · have d : 0 ≤ x / y := Int.ediv_nonneg hx (Int.le_of_lt p)
    have e : 1 * (x / y) ≤ y * (x / y) := Int.mul_le_mul_of_nonneg_right (by omega) d
    omega
theorem Bn.mod {n : Nat} {x y : Int} (h : Bn n y) (p : 0 < y) : Bn n (x % y) := h.of_le (Int.emod_nonneg x (Int.ne_of_gt p)) (Int.le_of_lt (Int.emod_lt_of_pos x p))
theorem bn_bits {n : Nat} {x : Int} (h : Builtin.Int.intBits x ≤ n) : Bn (n + 1) x := by
  unfold Builtin.Int.intBits at h
  refine ⟨?_⟩
  split at h
  · rename_i z
    have e : x = 0 := by simpa using z
    rw [e]
    exact Nat.two_pow_pos _
  · have a : x.natAbs < 2 ^ (x.natAbs.log2 + 1) := Nat.lt_log2_self
    exact Nat.lt_of_lt_of_le a (Nat.pow_le_pow_right (by decide) (by omega))
theorem mulOk_left {x y : Int} (h : x.natAbs < 4294967296) (k : Bn 100000000 y) : CMulX x y := mulx_ok (a := 32) h k.lt (by decide)
/-- a size of the program: from 1 on, of less than 2000 bits -/
structure Sz (x : Int) : Prop where
  pos : 0 < x
  bn : Bn 2000 x
/-! ### heaps that grow -/
theorem same_upd {H : Hp} {p : Addr} {o : HO} (h : H p = none) : Same H (upd H p o) := fun b x e => by
  rw [upd_ne (ne_of_none e h)]
  exact e
theorem newH {H H2 : Hp} {p : Addr} {o : HO} (e : upd H p o = H2) (hp : H p = none) : Same H H2 ∧ H2 p = some o := by
  rw [← e]
  exact ⟨same_upd hp, upd_same⟩
theorem Same.tup {K : PySem.W.Frag} {H H' : Hp} {a : Addr} {xs : List V} (e : Same H H') (h : SqT K H a xs) : SqT K H' a xs := by
  rcases h with (h | ⟨o, h⟩) | h
  · exact .inl (.inl (e _ _ h))
  · exact .inl (.inr ⟨o, e _ _ h⟩)
  · exact .inr h
theorem sqL {K : PySem.W.Frag} {H : Hp} {a : Addr} {xs : List V} (h : H a = some (.lst xs)) : SqL K H a xs := .inl (.inl h)
theorem sqT {K : PySem.W.Frag} {H : Hp} {a : Addr} {xs : List V} (h : H a = some (.tup xs)) : SqT K H a xs := .inl (.inl h)
/-- the int that a slot holds, as a measure -/
def slotN (σ : L2.St) (i : Nat) : Nat := match σ[i]? with
  | some (some (.int n)) => n.toNat
  | _ => 0
section
variable {A B : Prop} {i j : Int}
theorem iteD {p : Prop} [Decidable p] (h1 : p → A) (h2 : ¬ p → B) : if decide p = true then A else B := ite2 (fun c => h1 (of_decide_eq_true c)) fun c => h2 fun z => c (decide_eq_true z)
theorem iteEq (h1 : i = j → A) (h2 : i ≠ j → B) : if decide (V.int i = V.int j) = true then A else B := iteD (fun c => h1 (V.int.inj c)) fun c => h2 fun z => c (by rw [z])
theorem iteNe (h1 : i ≠ j → A) (h2 : i = j → B) : if (!decide (V.int i = V.int j)) = true then A else B := by
  by_cases c : i = j
  · rw [decide_eq_true (show V.int i = V.int j by rw [c])]
    exact iteF (h2 c)
  · rw [decide_eq_false (show ¬ V.int i = V.int j from fun z => c (V.int.inj z))]
    exact iteT (h1 c)
theorem iteP {p : Prop} [Decidable p] (hp : p) (h : A) : if decide p = true then A else B := by
  rw [decide_eq_true hp]
  exact iteT h
theorem iteN {p : Prop} [Decidable p] (hp : ¬ p) (h : B) : if decide p = true then A else B := by
  rw [decide_eq_false hp]
  exact iteF h
theorem iteNP {p : Prop} [Decidable p] (hp : p) (h : B) : if (!decide p) = true then A else B := by
  rw [decide_eq_true hp]
  exact iteF h
theorem iteNN {p : Prop} [Decidable p] (hp : ¬ p) (h : A) : if (!decide p) = true then A else B := by
  rw [decide_eq_false hp]
  exact iteT h
theorem iteB {b : Bool} (h1 : b = true → A) (h2 : b = false → B) : if b = true then A else B := by
  cases b with
  | true => exact iteT (h1 rfl)
  | false => exact iteF (h2 rfl)
end
def rLen2 (K : PySem.W.Frag) : List V → Hp → VK → Prop := fun xs H Q => ∃ p ys, xs = [.ref p] ∧ (SqL K H p ys ∨ SqT K H p ys) ∧ Q (.int ys.length) H
theorem lc_yes {σ : L2.St} {H : Hp} {A B : Hp → Prop} (h : A H) : tYes σ H fun b H3 => if b = true then A H3 else B H3 := by
  show if true = true then A H else B H
  rw [if_pos rfl]
  exact h
/-- if t: .. where t is not so, in whatever way it is told -/
theorem if_no {T : TT} {R U : TS} {D : Ends} {σ : L2.St} {H H' : Hp} (hT : ∀ r : Bool → Hp → Prop, r false H' → T σ H r) (hU : U D σ H') : tSeq (tIfS T R tNext) U D σ H :=
  hT _ (by
    show if false = true then _ else _
    exact iteF hU)
theorem tn {D : Ends} {σ : L2.St} {H : Hp} (h : D.nx σ H) : tNext D σ H := h
theorem mul_in {x y A B : Int} (hx : 0 ≤ x) (ha : x ≤ A) (hy : 0 ≤ y) (hb : y ≤ B) : 0 ≤ x * y ∧ x * y ≤ A * B :=
  ⟨Int.mul_nonneg hx hy, Int.le_trans (Int.mul_le_mul_of_nonneg_left hb hx) (Int.mul_le_mul_of_nonneg_right ha (Int.le_trans hy hb))⟩
/-- go on from a word -/
theorem enter {t : TS} {D : Ends} {σ : L2.St} {H : Hp} (M : L2.St → Hp → Prop) (h : M σ H) (k : ∀ σ H, M σ H → t D σ H) : t D σ H := k σ H h
theorem u65 {k : Nat} {A : Around} (r : Room k A) : A.units + 65 < cLine := by have := r.un; omega
theorem size4 {n : Nat} (h : n ≤ 1000000) : n ≤ sizeLine := Nat.le_trans h (by decide)
end BF

/-! Plain mathematics: a size as a sum of two others, the fewest of the first one. -/
namespace BF
/-- m of the first and n of the second make the size -/
def Rep (s a b m n : Int) : Prop := 0 ≤ m ∧ 0 ≤ n ∧ m * a + n * b = s
def IsParts (s a b : Int) : Option (Int × Int) → Prop
  | none => ∀ m n, ¬ Rep s a b m n
  | some x => Rep s a b x.1 x.2 ∧ ∀ m n, Rep s a b m n → x.1 ≤ m
theorem IsParts.unique {s a b : Int} (hb : 0 < b) : ∀ {x y : Option (Int × Int)}, IsParts s a b x → IsParts s a b y → x = y
  | none, none, _, _ => rfl
  | none, some y, h, k => absurd k.1 (h _ _)
  | some x, none, h, k => absurd h.1 (k _ _)
  | some (m, n), some (m', n'), h, k => by
    have h1 := h.2 _ _ k.1
    have h2 := k.2 _ _ h.1
    have e : m = m' := Int.le_antisymm h1 h2
    subst e
    have e1 := h.1.2.2
    have e2 := k.1.2.2
    simp only at e1 e2
    have e3 : n * b = n' * b := by omega
    have e4 : n = n' := Int.eq_of_mul_eq_mul_right (Int.ne_of_gt hb) e3
    rw [e4]
open Classical in
/-- how s is a sum of a and b -/
noncomputable def parts (s a b : Int) : Option (Int × Int) := if h : ∃ x, IsParts s a b x then h.choose else none
theorem parts_eq {s a b : Int} {x : Option (Int × Int)} (hb : 0 < b) (h : IsParts s a b x) : parts s a b = x := by
  unfold parts
  have e : ∃ x, IsParts s a b x := ⟨x, h⟩
  rw [dif_pos e]
  exact IsParts.unique hb e.choose_spec h
/-- g goes into both, t of the first leave it by the second -/
structure Good (a b g t : Int) : Prop where
  pos : 0 < g
  ga : g ∣ a
  gb : g ∣ b
  mod : b ∣ t * a - g
theorem few_core {s a b g t : Int} (ha : 0 < a) (hb : 0 < b) (G : Good a b g t) (hs : g ∣ s) :
    b ∣ s - (s / g * t % (b / g)) * a ∧ 0 ≤ s / g * t % (b / g) ∧ ∀ m, 0 ≤ m → b ∣ s - m * a → s / g * t % (b / g) ≤ m := by
  obtain ⟨hg, ⟨a', ea⟩, ⟨b', eb⟩, ⟨k, ek⟩⟩ := G
  obtain ⟨s', es⟩ := hs
  have hb' : 0 < b' := by
    have h2 : 0 < g * b' := by rw [← eb]; exact hb
    rcases Int.lt_or_le 0 b' with h | h
    · exact h
    · have h3 : g * b' ≤ g * 0 := Int.mul_le_mul_of_nonneg_left h (Int.le_of_lt hg)
      omega
  have e1 : s / g = s' := by rw [es]; exact Int.mul_ediv_cancel_left s' (Int.ne_of_gt hg)
  have e2 : b / g = b' := by rw [eb]; exact Int.mul_ediv_cancel_left b' (Int.ne_of_gt hg)
  rw [e1, e2]
  have hmod := Int.emod_add_mul_ediv (s' * t) b'
  generalize hf : s' * t % b' = f at hmod ⊢
  generalize s' * t / b' = q at hmod
  have h0 : 0 ≤ f := by rw [← hf]; exact Int.emod_nonneg _ (Int.ne_of_gt hb')
  have h1 : f < b' := by rw [← hf]; exact Int.emod_lt_of_pos _ hb'
  have key : b ∣ s - f * a := by
    -- f = s't - b'q, so s - f a = s - s't a + b' q a = s - s'(g + bk) + b'q g a' = b (q a' - s' k)
    refine ⟨q * a' - s' * k, ?_⟩
    have ef : f = s' * t - b' * q := by omega
    have et : t * a = g + b * k := by omega
    calc s - f * a = s - (s' * t - b' * q) * a := by rw [ef]
      _ = s - s' * (t * a) + b' * q * a := by rw [Int.sub_mul, Int.mul_assoc s' t a]; omega
      _ = s - s' * (g + b * k) + b' * q * (g * a') := by rw [et, ← ea]
      _ = b * (q * a' - s' * k) := by
        rw [Int.mul_add, Int.mul_sub, es, eb]
        have x1 : s' * g = g * s' := Int.mul_comm _ _
        have x2 : s' * (g * b' * k) = g * b' * (s' * k) := by
          rw [Int.mul_left_comm]
        have x3 : b' * q * (g * a') = g * b' * (q * a') := by
          rw [Int.mul_comm g b', Int.mul_assoc b' q, Int.mul_assoc b' g, Int.mul_left_comm q g a']
        rw [x1, x2, x3]
        omega
  refine ⟨key, h0, fun m hm hd => ?_⟩
  -- b | (m - f) a, so b | (m - f) g, so b' | m - f
  have d1 : b ∣ (m - f) * a := by
    have : (m - f) * a = (s - f * a) - (s - m * a) := by rw [Int.sub_mul]; omega
    rw [this]
    exact Int.dvd_sub key hd
  have d2 : b ∣ (m - f) * g := by
    have e3 : (m - f) * g = (m - f) * a * t - b * ((m - f) * k) := by
      have et : t * a = g + b * k := by omega
      have : (m - f) * a * t = (m - f) * (t * a) := by rw [Int.mul_assoc, Int.mul_comm a t]
      rw [this, et, Int.mul_add, Int.mul_left_comm (m - f) b k]
      omega
    rw [e3]
    exact Int.dvd_sub (Int.dvd_trans d1 (Int.dvd_mul_right _ _)) (Int.dvd_mul_right _ _)
  have d3 : b' ∣ m - f := by
    obtain ⟨c, ec⟩ := d2
    refine ⟨c, ?_⟩
    have : g * (m - f) = g * (b' * c) := by rw [Int.mul_comm g (m - f), ec, eb, Int.mul_assoc]
    exact Int.eq_of_mul_eq_mul_left (Int.ne_of_gt hg) this
  obtain ⟨c, ec⟩ := d3
  -- m = f + b' c with m ≥ 0, f < b': c ≥ 0
  have hc : 0 ≤ c := by
    rcases Int.lt_or_le c 0 with hc | hc
    · have h2 : b' * c ≤ b' * (-1) := Int.mul_le_mul_of_nonneg_left (by omega) (Int.le_of_lt hb')
      omega
    · exact hc
  have h3 : 0 ≤ b' * c := Int.mul_nonneg (Int.le_of_lt hb') hc
  omega
theorem parts_good {s a b g t : Int} (ha : 0 < a) (hb : 0 < b) (G : Good a b g t) :
    parts s a b = if s % g ≠ 0 then none else if s / g * t % (b / g) * a > s then none else some (s / g * t % (b / g), (s - s / g * t % (b / g) * a) / b) := by
  refine parts_eq hb ?_
  by_cases hs : s % g ≠ 0
  · rw [if_pos hs]
    rintro m n ⟨_, _, e⟩
    refine hs (Int.emod_eq_zero_of_dvd ?_)
    rw [← e]
    exact Int.dvd_add (Int.dvd_trans G.ga (Int.dvd_mul_left _ _)) (Int.dvd_trans G.gb (Int.dvd_mul_left _ _))
  · rw [if_neg hs]
    have hd : g ∣ s := Int.dvd_of_emod_eq_zero (by omega)
    obtain ⟨k1, k2, k3⟩ := few_core ha hb G hd
    generalize s / g * t % (b / g) = f at k1 k2 k3
    have least : ∀ m n, Rep s a b m n → f ≤ m := fun m n ⟨h1, h2, h3⟩ => k3 m h1 ⟨n, by rw [Int.mul_comm b n]; omega⟩
    by_cases hf : f * a > s
    · rw [if_pos hf]
      rintro m n R
      have l := least m n R
      obtain ⟨h1, h2, h3⟩ := R
      have p1 : f * a ≤ m * a := Int.mul_le_mul_of_nonneg_right l (Int.le_of_lt ha)
      have p2 : 0 ≤ n * b := Int.mul_nonneg h2 (Int.le_of_lt hb)
      omega
    · rw [if_neg hf]
      refine ⟨⟨k2, Int.ediv_nonneg (by omega) (Int.le_of_lt hb), ?_⟩, least⟩
      show f * a + (s - f * a) / b * b = s
      rw [Int.ediv_mul_cancel k1]
      omega
/-- the law's number: the fewest of the first, -1 where there is none -/
def fewI : Option (Int × Int) → Int
  | none => -1
  | some x => x.1
theorem parts_some {s a b m n : Int} (hb : 0 < b) (h : parts s a b = some (m, n)) (ex : ∃ x, IsParts s a b x) : IsParts s a b (some (m, n)) := by
  obtain ⟨x, hx⟩ := ex
  have e := parts_eq hb hx
  rw [h] at e
  rw [e]
  exact hx
end BF

/-! ### plain mathematics of the loop in shared -/
namespace BF
structure ShInv (a b one other mine theirs : Int) : Prop where
  o1 : 0 < one
  o2 : 0 ≤ other
  l1 : one ≤ a ∨ one ≤ b
  l2 : other ≤ b
  dv : ∀ d : Int, (d ∣ one ∧ d ∣ other) ↔ (d ∣ a ∧ d ∣ b)
  m1 : b ∣ mine * a - one
  m2 : b ∣ theirs * a - other
  bd : ∃ M T : Int, 0 ≤ M ∧ 0 ≤ T ∧ M ≤ b ∧ T ≤ b ∧ T * one + M * other = b ∧ ((mine = M ∧ theirs = -T) ∨ (mine = -M ∧ theirs = T))
theorem ShInv.start {a b : Int} (ha : 0 < a) (hb : 0 < b) : ShInv a b a b 1 0 where
  o1 := ha
  o2 := Int.le_of_lt hb
  l1 := .inl (Int.le_refl _)
  l2 := Int.le_refl _
  dv := fun d => Iff.rfl
  m1 := by rw [Int.one_mul, Int.sub_self]; exact Int.dvd_zero b
  m2 := by rw [Int.zero_mul, Int.zero_sub]; exact Int.dvd_neg.mpr (Int.dvd_refl b)
  bd := ⟨1, 0, by omega, by omega, by omega, by omega, by omega, .inl ⟨rfl, by omega⟩⟩
theorem ShInv.turn {a b one other mine theirs : Int} (h : ShInv a b one other mine theirs) (ho : 0 < other) :
    ShInv a b other (one - one / other * other) theirs (mine - one / other * theirs) ∧ one - one / other * other < other ∧ 0 ≤ one - one / other * other := by
  obtain ⟨o1, o2, l1, l2, dv, m1, m2, M, T, hM, hT, lM, lT, e, sg⟩ := h
  have hm : one - one / other * other = one % other := by
    have := Int.emod_add_mul_ediv one other
    rw [Int.mul_comm] at this
    omega
  have h0 : 0 ≤ one % other := Int.emod_nonneg _ (Int.ne_of_gt ho)
  have h1 : one % other < other := Int.emod_lt_of_pos _ ho
  have hq : 0 ≤ one / other := Int.ediv_nonneg (Int.le_of_lt o1) o2
  refine ⟨?_, by omega, by omega⟩
  generalize hqq : one / other = q at *
  have key : (M + q * T) * other + T * (one - q * other) = b := by
    have x1 : (M + q * T) * other = M * other + q * T * other := Int.add_mul _ _ _
    have x2 : T * (one - q * other) = T * one - q * T * other := by rw [Int.mul_sub, ← Int.mul_assoc, Int.mul_comm T q]
    omega
  have hqT : 0 ≤ q * T := Int.mul_nonneg hq hT
  have hn : 0 ≤ T * (one - q * other) := Int.mul_nonneg hT (by omega)
  have l3 : M + q * T ≤ b := by
    have : (M + q * T) * 1 ≤ (M + q * T) * other := Int.mul_le_mul_of_nonneg_left (by omega) (by omega)
    omega
  refine ⟨ho, by omega, .inr l2, by omega, fun d => ?_, m2, ?_, T, M + q * T, hT, by omega, lT, l3, key, ?_⟩
  · rw [← dv d]
    constructor
    · rintro ⟨a1, a2⟩
      refine ⟨?_, a1⟩
      have : one = (one - q * other) + q * other := by omega
      rw [this]
      exact Int.dvd_add a2 (Int.dvd_trans a1 (Int.dvd_mul_left _ _))
    · rintro ⟨a1, a2⟩
      exact ⟨a2, Int.dvd_sub a1 (Int.dvd_trans a2 (Int.dvd_mul_left _ _))⟩
  · have : (mine - q * theirs) * a - (one - q * other) = (mine * a - one) - q * (theirs * a - other) := by
      rw [Int.sub_mul, Int.mul_sub, Int.mul_assoc]
      omega
    rw [this]
    exact Int.dvd_sub m1 (Int.dvd_trans m2 (Int.dvd_mul_left _ _))
  · rcases sg with ⟨r1, r2⟩ | ⟨r1, r2⟩
    · right
      subst r1 r2
      refine ⟨rfl, ?_⟩
      rw [Int.mul_neg]
      omega
    · left
      subst r1 r2
      exact ⟨rfl, by omega⟩
theorem ShInv.done {a b one mine theirs : Int} (ha : 0 < a) (hb : 0 < b) (h : ShInv a b one 0 mine theirs) : Good a b one (mine % b) ∧ one ≤ b := by
  have d := (h.dv one).mp ⟨Int.dvd_refl _, Int.dvd_zero _⟩
  refine ⟨⟨h.o1, d.1, d.2, ?_⟩, Int.le_of_dvd hb d.2⟩
  have e : mine % b * a - one = (mine * a - one) - b * (mine / b * a) := by
    have := Int.emod_add_mul_ediv mine b
    have x : mine % b = mine - b * (mine / b) := by omega
    rw [x, Int.sub_mul, Int.mul_assoc]
    omega
  rw [e]
  exact Int.dvd_sub h.m1 (Int.dvd_mul_right _ _)
theorem ShInv.theirs_le {a b one other mine theirs : Int} (h : ShInv a b one other mine theirs) : theirs.natAbs ≤ b.natAbs ∧ mine.natAbs ≤ b.natAbs := by
  obtain ⟨M, T, hM, hT, lM, lT, _, sg⟩ := h.bd
  rcases sg with ⟨r1, r2⟩ | ⟨r1, r2⟩ <;> (subst r1 r2; omega)
end BF

/-! ### plain mathematics of the law's own reckoning: the divisions' rows, and the way back -/
namespace BF
/-- rows: the quotients of the divisions that begin at one, other -/
inductive Eu : Int → Int → List Int → Prop where
  | nil {one : Int} (h : 0 < one) : Eu one 0 []
  | cons {one other : Int} {r : List Int} (h1 : 0 < one) (h2 : 0 < other) (h : Eu other (one % other) r) : Eu one other (one / other :: r)
def back : List Int → Int × Int
  | [] => (1, 0)
  | q :: r => ((back r).2, (back r).1 - q * (back r).2)
theorem Eu.pos : ∀ {one other : Int} {r : List Int}, Eu one other r → 0 < one ∧ 0 ≤ other
  | _, _, _, .nil h => ⟨h, Int.le_refl _⟩
  | _, _, _, .cons h1 h2 _ => ⟨h1, Int.le_of_lt h2⟩
theorem Eu.back : ∀ {one other : Int} {r : List Int}, Eu one other r → ∃ g, 0 < g ∧ (∀ d : Int, d ∣ g ↔ d ∣ one ∧ d ∣ other) ∧ (back r).1 * one + (back r).2 * other = g ∧ (r ≠ [] → (BF.back r).1.natAbs ≤ other.natAbs ∧ (BF.back r).2.natAbs ≤ one.natAbs)
  | _, _, _, .nil (one := one) h => by
    refine ⟨one, h, fun d => ⟨fun e => ⟨e, Int.dvd_zero d⟩, fun e => e.1⟩, ?_, fun z => absurd rfl z⟩
    show (1 : Int) * one + 0 * 0 = one
    omega
  | _, _, _, .cons (one := one) (other := other) (r := r) h1 h2 h => by
    obtain ⟨g, hg, dv, e, bd⟩ := Eu.back h
    have hm := Int.emod_add_mul_ediv one other
    have hq : 0 ≤ one / other := Int.ediv_nonneg (Int.le_of_lt h1) (Int.le_of_lt h2)
    have hr0 : 0 ≤ one % other := Int.emod_nonneg _ (Int.ne_of_gt h2)
    refine ⟨g, hg, fun d => ?_, ?_, fun _ => ?_⟩
    · rw [dv d]
      constructor
      · rintro ⟨a1, a2⟩
        refine ⟨?_, a1⟩
        rw [← hm]
        exact Int.dvd_add a2 (Int.dvd_trans a1 (Int.dvd_mul_right _ _))
      · rintro ⟨a1, a2⟩
        refine ⟨a2, ?_⟩
        have : one % other = one - other * (one / other) := by omega
        rw [this]
        exact Int.dvd_sub a1 (Int.dvd_trans a2 (Int.dvd_mul_right _ _))
    · show (BF.back r).2 * one + ((BF.back r).1 - one / other * (BF.back r).2) * other = g
      generalize (BF.back r).1 = m at *
      generalize (BF.back r).2 = t at *
      generalize one / other = q at *
      have x1 : (m - q * t) * other = m * other - t * (other * q) := by
        rw [Int.sub_mul, Int.mul_comm q t, Int.mul_assoc, Int.mul_comm q other]
      have x2 : t * one = t * (one % other) + t * (other * q) := by rw [← Int.mul_add, hm]
      omega
    · show (BF.back r).2.natAbs ≤ other.natAbs ∧ ((BF.back r).1 - one / other * (BF.back r).2).natAbs ≤ one.natAbs
      cases r with
      | nil =>
        show (0 : Int).natAbs ≤ other.natAbs ∧ ((1 : Int) - one / other * 0).natAbs ≤ one.natAbs
        omega
      | cons q' r' =>
        obtain ⟨b1, b2⟩ := bd (by simp)
        refine ⟨b2, ?_⟩
        generalize (BF.back (q' :: r')).1 = m at *
        generalize (BF.back (q' :: r')).2 = t at *
        have x3 : (one / other * t).natAbs ≤ (other * (one / other)).natAbs := by
          rw [Int.natAbs_mul, Int.natAbs_mul, Nat.mul_comm other.natAbs]
          exact Nat.mul_le_mul_left _ b2
        have x4 : 0 ≤ other * (one / other) := Int.mul_nonneg (Int.le_of_lt h2) hq
        omega
theorem Eu.drop {B : Int} : ∀ {one other : Int} {r : List Int}, Eu one other r → one ≤ B → other ≤ B → ∀ k, k ≤ r.length → ∃ x y, Eu x y (r.drop k) ∧ x ≤ B ∧ y ≤ B
  | _, _, _, .nil h, l1, l2, k, hk => ⟨_, _, by rw [List.drop_nil]; exact .nil h, l1, l2⟩
  | _, _, _, .cons h1 h2 h, l1, l2, 0, _ => ⟨_, _, .cons h1 h2 h, l1, l2⟩
  | _, _, _, .cons (one := one) (other := other) h1 h2 h, l1, l2, k + 1, hk => by
    have h3 : one % other < other := Int.emod_lt_of_pos _ h2
    exact Eu.drop h l2 (by omega) k (by simpa using hk)
theorem emod_le_self {x y : Int} (h : 0 < x) (hy : 0 < y) : x % y ≤ x := by
  have hm := Int.emod_add_mul_ediv x y
  have hq : 0 ≤ x / y := Int.ediv_nonneg (Int.le_of_lt h) (Int.le_of_lt hy)
  have : 0 ≤ y * (x / y) := Int.mul_nonneg (Int.le_of_lt hy) hq
  omega
/-- the loop that gathers the rows -/
structure FwInv (a b : Int) (rows : List Int) (one other : Int) : Prop where
  o1 : 0 < one
  o2 : 0 ≤ other
  l1 : one ≤ a ∨ one ≤ b
  l2 : other ≤ b
  go : ∀ r, Eu one other r → Eu a b (rows ++ r)
  less : rows ≠ [] → other < one
  fst : rows = [] → one = a ∧ other = b
  len : one * other * 2 ^ rows.length ≤ 2 * (a * b)
theorem FwInv.start {a b : Int} (ha : 0 < a) (hb : 0 < b) : FwInv a b [] a b where
  o1 := ha
  o2 := Int.le_of_lt hb
  l1 := .inl (Int.le_refl _)
  l2 := Int.le_refl _
  go := fun r h => h
  less := fun z => absurd rfl z
  fst := fun _ => ⟨rfl, rfl⟩
  len := by
    have : 0 < a * b := Int.mul_pos ha hb
    show a * b * 1 ≤ 2 * (a * b)
    omega
theorem FwInv.turn {a b one other : Int} {rows : List Int} (h : FwInv a b rows one other) (ho : 0 < other) : FwInv a b (rows ++ [one / other]) other (one % other) := by
  obtain ⟨o1, o2, l1, l2, go, less, fst, len⟩ := h
  have h0 : 0 ≤ one % other := Int.emod_nonneg _ (Int.ne_of_gt ho)
  have h1 : one % other < other := Int.emod_lt_of_pos _ ho
  refine ⟨ho, h0, .inr l2, by omega, fun r hr => ?_, fun _ => h1, fun z => by simp at z, ?_⟩
  · rw [List.append_assoc]
    exact go _ (.cons o1 ho hr)
  · rw [List.length_append, List.length_singleton, Int.pow_succ]
    have hp : (0 : Int) ≤ 2 ^ rows.length := Int.pow_nonneg (by decide)
    cases rows with
    | nil =>
      show other * (one % other) * (1 * 2) ≤ 2 * (a * b)
      obtain ⟨e1, e2⟩ := fst rfl
      subst e1 e2
      have x : other * (one % other) ≤ other * one := Int.mul_le_mul_of_nonneg_left (emod_le_self o1 ho) o2
      rw [Int.mul_comm other one] at x
      omega
    | cons q r =>
      have hl := less (by simp)
      have x : 2 * (one % other) ≤ one := by
        have hm := Int.emod_add_mul_ediv one other
        have hq : 1 ≤ one / other := by
          rcases Int.lt_or_le (one / other) 1 with c | c
          · have : other * (one / other) ≤ other * 0 := Int.mul_le_mul_of_nonneg_left (by omega) o2
            omega
          · exact c
        have : other * 1 ≤ other * (one / other) := Int.mul_le_mul_of_nonneg_left hq o2
        omega
      have y : other * (one % other) * ((2 : Int) ^ (q :: r).length * 2) = (other * (2 * (one % other))) * 2 ^ (q :: r).length := by
        rw [Int.mul_comm ((2 : Int) ^ (q :: r).length) 2, ← Int.mul_assoc, Int.mul_assoc other, Int.mul_comm (one % other) 2]
      rw [y]
      refine Int.le_trans (Int.mul_le_mul_of_nonneg_right ?_ hp) len
      rw [Int.mul_comm one other]
      exact Int.mul_le_mul_of_nonneg_left x o2
theorem two_pow_cast (n : Nat) : ((2 ^ n : Nat) : Int) = (2 : Int) ^ n := by
  rw [Int.natCast_pow]
  rfl
/-- at most 4001 rows -/
theorem FwInv.few {a b one other : Int} {rows : List Int} (h : FwInv a b rows one other) (ho : 0 < other) (ha : a.natAbs < 2 ^ 2000) (hb : b.natAbs < 2 ^ 2000) : rows.length ≤ 4001 := by
  have e := h.len
  have h1 : 1 ≤ one * other := Int.mul_pos h.o1 ho
  have hp : (0 : Int) ≤ 2 ^ rows.length := by
    rw [← two_pow_cast]
    exact Int.natCast_nonneg _
  have h2 : (1 : Int) * 2 ^ rows.length ≤ one * other * 2 ^ rows.length := Int.mul_le_mul_of_nonneg_right h1 hp
  have h3 : (a * b).natAbs < 2 ^ 4000 := by
    rw [Int.natAbs_mul, show (4000 : Nat) = 2000 + 2000 from rfl, Nat.pow_add]
    exact Nat.mul_lt_mul'' ha hb
  have h4 : ((2 ^ rows.length : Nat) : Int) ≤ 2 * (a * b) := by
    rw [two_pow_cast]
    omega
  have h5 : 2 ^ rows.length < 2 ^ 4001 := by
    rw [show (4001 : Nat) = 4000 + 1 from rfl, Nat.pow_succ]
    generalize 2 ^ 4000 = Z at *
    generalize 2 ^ rows.length = Y at *
    omega
  have h6 : rows.length < 4001 := (Nat.pow_lt_pow_iff_right (by decide)).mp h5
  omega
/-- the law's way back gives what the program's way gives -/
theorem few_back {s a b g g2 : Int} {rows : List Int} (hs : 0 < s) (ha : 0 < a) (hb : 0 < b) (hg : 0 < g) (dg : ∀ d : Int, d ∣ g ↔ d ∣ a ∧ d ∣ b) (E : Eu (a / g) (b / g) rows) (hz : s % g = 0) :
    fewI (parts s a b) = if s / g * (back rows).1 % (b / g) * (a / g) ≤ s / g then s / g * (back rows).1 % (b / g) else -1 := by
  obtain ⟨da, db⟩ := (dg g).mp (Int.dvd_refl g)
  obtain ⟨a', ea⟩ := da
  obtain ⟨b', eb⟩ := db
  obtain ⟨s', es⟩ := Int.dvd_of_emod_eq_zero hz
  have e1 : s / g = s' := by rw [es]; exact Int.mul_ediv_cancel_left s' (Int.ne_of_gt hg)
  have e2 : b / g = b' := by rw [eb]; exact Int.mul_ediv_cancel_left b' (Int.ne_of_gt hg)
  have e3 : a / g = a' := by rw [ea]; exact Int.mul_ediv_cancel_left a' (Int.ne_of_gt hg)
  rw [e2, e3] at E
  obtain ⟨h, hh, dh, eh, _⟩ := E.back
  have h1 : h = 1 := by
    obtain ⟨x1, x2⟩ := (dh h).mp (Int.dvd_refl h)
    have d1 : g * h ∣ g := (dg _).mpr ⟨by rw [ea]; exact Int.mul_dvd_mul_left g x1, by rw [eb]; exact Int.mul_dvd_mul_left g x2⟩
    have l1 := Int.le_of_dvd hg d1
    rcases Int.lt_or_le 1 h with c | c
    · have : g * 2 ≤ g * h := Int.mul_le_mul_of_nonneg_left (by omega) (Int.le_of_lt hg)
      omega
    · omega
  have G : Good a b g (back rows).1 := by
    refine ⟨hg, ⟨a', ea⟩, ⟨b', eb⟩, -(back rows).2, ?_⟩
    rw [h1] at eh
    generalize (back rows).1 = m at *
    generalize (back rows).2 = t at *
    have x1 : m * a = g * (m * a') := by rw [ea, Int.mul_left_comm]
    have x2 : b * -t = -(g * (t * b')) := by rw [Int.mul_neg, eb, Int.mul_assoc, Int.mul_comm b' t]
    have x3 : g * (m * a' + t * b') = g * 1 := by rw [eh]
    rw [Int.mul_add] at x3
    omega
  rw [parts_good ha hb G, if_neg (by simp [hz]), e1, e2, e3]
  have key : (s' * (back rows).1 % b' * a > s) ↔ ¬ (s' * (back rows).1 % b' * a' ≤ s') := by
    generalize s' * (back rows).1 % b' = f
    have x : f * a = g * (f * a') := by rw [ea, Int.mul_left_comm]
    rw [x, es]
    constructor
    · intro q z
      have := Int.mul_le_mul_of_nonneg_left z (Int.le_of_lt hg)
      omega
    · intro q
      have := Int.mul_lt_mul_of_pos_left (show s' < f * a' by omega) hg
      omega
  by_cases c : s' * (back rows).1 % b' * a' ≤ s'
  · rw [if_neg (fun z => key.mp z c), if_pos c]
    rfl
  · rw [if_pos (key.mpr c), if_neg c]
    rfl
theorem few_none {s a b g : Int} (hb : 0 < b) (dg : ∀ d : Int, d ∣ g ↔ d ∣ a ∧ d ∣ b) (hz : s % g ≠ 0) : fewI (parts s a b) = -1 := by
  have e : parts s a b = none := parts_eq hb (x := none) (by
    rintro m n ⟨_, _, e⟩
    obtain ⟨x1, x2⟩ := (dg g).mp (Int.dvd_refl g)
    refine hz (Int.emod_eq_zero_of_dvd ?_)
    rw [← e]
    exact Int.dvd_add (Int.dvd_trans x1 (Int.dvd_mul_left _ _)) (Int.dvd_trans x2 (Int.dvd_mul_left _ _)))
  rw [e]
  rfl
end BF

/-! ### there is always an answer; a search among few -/
namespace BF
theorem eu_ex : ∀ (n : Nat) (a b : Int), 0 < a → 0 ≤ b → b.toNat ≤ n → ∃ rows, Eu a b rows
  | 0, a, b, ha, hb, h => by
    have e : b = 0 := by omega
    subst e
    exact ⟨[], .nil ha⟩
  | n + 1, a, b, ha, hb, h => by
    rcases Int.lt_or_le 0 b with c | c
    · have h0 : 0 ≤ a % b := Int.emod_nonneg _ (Int.ne_of_gt c)
      have h1 : a % b < b := Int.emod_lt_of_pos _ c
      obtain ⟨r, hr⟩ := eu_ex n b (a % b) c h0 (by omega)
      exact ⟨_, .cons ha c hr⟩
    · have e : b = 0 := by omega
      subst e
      exact ⟨[], .nil ha⟩
theorem good_ex {a b : Int} (ha : 0 < a) (hb : 0 < b) : ∃ g t, Good a b g t := by
  obtain ⟨rows, E⟩ := eu_ex _ a b ha (Int.le_of_lt hb) (Nat.le_refl _)
  obtain ⟨g, hg, dv, e, _⟩ := E.back
  obtain ⟨d1, d2⟩ := (dv g).mp (Int.dvd_refl g)
  refine ⟨g, (back rows).1, hg, d1, d2, -(back rows).2, ?_⟩
  rw [Int.mul_neg, Int.mul_comm b]
  omega
theorem parts_is {s a b : Int} (ha : 0 < a) (hb : 0 < b) : IsParts s a b (parts s a b) := by
  obtain ⟨g, t, G⟩ := good_ex ha hb
  have ex : ∃ x, IsParts s a b x := by
    by_cases hs : s % g ≠ 0
    · refine ⟨none, ?_⟩
      rintro m n ⟨_, _, e⟩
      refine hs (Int.emod_eq_zero_of_dvd ?_)
      rw [← e]
      exact Int.dvd_add (Int.dvd_trans G.ga (Int.dvd_mul_left _ _)) (Int.dvd_trans G.gb (Int.dvd_mul_left _ _))
    · have hd : g ∣ s := Int.dvd_of_emod_eq_zero (by omega)
      obtain ⟨k1, k2, k3⟩ := few_core ha hb G hd
      generalize s / g * t % (b / g) = f at k1 k2 k3
      have least : ∀ m n, Rep s a b m n → f ≤ m := fun m n ⟨h1, h2, h3⟩ => k3 m h1 ⟨n, by rw [Int.mul_comm b n]; omega⟩
      by_cases hf : f * a > s
      · refine ⟨none, ?_⟩
        rintro m n R
        have l := least m n R
        obtain ⟨h1, h2, h3⟩ := R
        have p1 : f * a ≤ m * a := Int.mul_le_mul_of_nonneg_right l (Int.le_of_lt ha)
        have p2 : 0 ≤ n * b := Int.mul_nonneg h2 (Int.le_of_lt hb)
        omega
      · refine ⟨some (f, (s - f * a) / b), ⟨k2, Int.ediv_nonneg (by omega) (Int.le_of_lt hb), ?_⟩, least⟩
        show f * a + (s - f * a) / b * b = s
        rw [Int.ediv_mul_cancel k1]
        omega
  obtain ⟨x, hx⟩ := ex
  rw [parts_eq hb hx]
  exact hx
theorem few_neg {s a b : Int} (ha : 0 < a) (hb : 0 < b) : fewI (parts s a b) < 0 ↔ parts s a b = none := by
  have h := parts_is (s := s) ha hb
  cases e : parts s a b with
  | none => simp [fewI]
  | some x =>
    rw [e] at h
    have := h.1.1
    simp only [fewI, reduceCtorEq, iff_false]
    omega
/-- the counts of the first below n that leave a multiple of the second -/
def hits (s a b : Int) (n : Nat) : List Int := ((List.range n).filter (fun m : Nat => decide ((s - (m : Int) * a) % b = 0))).map (fun m : Nat => (m : Int))
theorem hits_succ (s a b : Int) (n : Nat) : hits s a b (n + 1) = hits s a b n ++ (if (s - (n : Int) * a) % b = 0 then [(n : Int)] else []) := by
  unfold hits
  rw [List.range_succ, List.filter_append, List.map_append]
  congr 1
  by_cases c : (s - (n : Int) * a) % b = 0
  · rw [if_pos c]
    simp [List.filter_cons, c]
  · rw [if_neg c]
    simp [List.filter_cons, c]
theorem hits_len (s a b : Int) (n : Nat) : (hits s a b n).length ≤ n := by
  unfold hits
  rw [List.length_map]
  exact Nat.le_trans (List.length_filter_le _ _) (by rw [List.length_range]; exact Nat.le_refl _)
theorem hits_few {s a b : Int} (hs : 0 < s) (ha : 0 < a) (hb : 0 < b) : (hits s a b (s / a + 1).toNat ++ [-1])[0]? = some (fewI (parts s a b)) := by
  have hq : 0 ≤ s / a := Int.ediv_nonneg (Int.le_of_lt hs) (Int.le_of_lt ha)
  have hm := Int.emod_add_mul_ediv s a
  have hr := Int.emod_nonneg s (Int.ne_of_gt ha)
  have rep : ∀ m : Nat, m < (s / a + 1).toNat → (s - (m : Int) * a) % b = 0 → Rep s a b m ((s - (m : Int) * a) / b) := fun m hl hz => by
    have l1 : (m : Int) ≤ s / a := by omega
    have l2 : a * (m : Int) ≤ a * (s / a) := Int.mul_le_mul_of_nonneg_left l1 (Int.le_of_lt ha)
    rw [Int.mul_comm a (m : Int)] at l2
    refine ⟨Int.natCast_nonneg m, Int.ediv_nonneg (by omega) (Int.le_of_lt hb), ?_⟩
    rw [Int.ediv_mul_cancel (Int.dvd_of_emod_eq_zero hz)]
    omega
  have h := parts_is (s := s) ha hb
  cases e : parts s a b with
  | none =>
    rw [e] at h
    have e0 : hits s a b (s / a + 1).toNat = [] := by
      unfold hits
      rw [List.filter_eq_nil_iff.mpr fun m hm2 => ?_]
      · rfl
      · intro z
        exact h _ _ (rep m (List.mem_range.mp hm2) (of_decide_eq_true z))
    rw [e0]
    rfl
  | some x =>
    rw [e] at h
    obtain ⟨⟨h1, h2, h3⟩, least⟩ := h
    obtain ⟨m, n⟩ := x
    simp only at h1 h2 h3 least
    obtain ⟨k, rfl⟩ := Int.eq_ofNat_of_zero_le h1
    have n0 : 0 ≤ n * b := Int.mul_nonneg h2 (Int.le_of_lt hb)
    have kl : (k : Int) ≤ s / a := by
      rcases Int.lt_or_le (s / a) k with c | c
      · have hl := Int.emod_lt_of_pos s ha
        have : a * (s / a + 1) ≤ a * (k : Int) := Int.mul_le_mul_of_nonneg_left (by omega) (Int.le_of_lt ha)
        rw [Int.mul_add, Int.mul_one, Int.mul_comm a (k : Int)] at this
        omega
      · exact c
    have hf : (List.range (s / a + 1).toNat).find? (fun m : Nat => decide ((s - (m : Int) * a) % b = 0)) = some k := by
      rw [List.find?_range_eq_some]
      refine ⟨decide_eq_true ?_, List.mem_range.mpr (by omega), fun j hj => ?_⟩
      · have : s - (k : Int) * a = n * b := by omega
        rw [this]
        exact Int.mul_emod_left n b
      · rw [Bool.not_eq_true', decide_eq_false_iff_not]
        intro z
        have := least _ _ (rep j (by omega) z)
        omega
    have hh : (hits s a b (s / a + 1).toNat)[0]? = some (k : Int) := by
      unfold hits
      rw [List.getElem?_map, ← List.head?_eq_getElem?, List.head?_filter, hf]
      rfl
    rw [List.getElem?_append_left (by
      rw [List.getElem?_eq_some_iff] at hh
      exact hh.1), hh]
    rfl
end BF

/-! ### plain mathematics of the stripes -/
namespace BF
/-- pairs below l and h that come to t -/
def pairsI (l h t : Int) : Int := max 0 (min t (l - 1) - max 0 (t - h + 1) + 1)
def alikeI (L W s c : Int) : Int := L / s * W + L % s * (W / s) + pairsI (L % s) (W % s) c + pairsI (L % s) (W % s) (c + s)
theorem pairs_swap {l h t : Int} (hl : 0 ≤ l) (hh : 0 ≤ h) : pairsI l h t = pairsI h l t := by
  unfold pairsI
  omega
theorem pairs_zero {l t : Int} (hl : 0 ≤ l) (ht : 0 ≤ t) : pairsI l 0 t = 0 := by
  unfold pairsI
  omega
theorem pairs_step {l h t : Int} (hl : 0 ≤ l) (hh : 0 ≤ h) (ht : 0 ≤ t) : pairsI l (h + 1) t = pairsI l h t + if h ≤ t ∧ t < h + l then 1 else 0 := by
  unfold pairsI
  split <;> omega
theorem pairs_full {l s c : Int} (hl : 0 ≤ l) (hs : l < s) (h0 : 0 ≤ c) (h1 : c < s) : pairsI l s c + pairsI l s (c + s) = l := by
  unfold pairsI
  omega
theorem alike_swap {L W s c : Int} (hs : 0 < s) : alikeI L W s c = alikeI W L s c := by
  have h1 := Int.emod_nonneg L (Int.ne_of_gt hs)
  have h2 := Int.emod_nonneg W (Int.ne_of_gt hs)
  unfold alikeI
  rw [pairs_swap (t := c) h1 h2, pairs_swap (t := c + s) h1 h2]
  have e1 := Int.emod_add_mul_ediv L s
  have e2 := Int.emod_add_mul_ediv W s
  have k : L / s * W + L % s * (W / s) = W / s * L + W % s * (L / s) := by
    generalize L / s = q at *
    generalize W / s = r at *
    generalize L % s = l at *
    generalize W % s = h at *
    have x1 : q * W = q * h + q * (s * r) := by rw [← Int.mul_add, e2]
    have x2 : r * L = r * l + r * (s * q) := by rw [← Int.mul_add, e1]
    have x3 : q * (s * r) = r * (s * q) := by rw [Int.mul_left_comm, Int.mul_left_comm r s q, Int.mul_comm q r]
    have x4 : l * r = r * l := Int.mul_comm _ _
    have x5 : h * q = q * h := Int.mul_comm _ _
    omega
  rw [k]
/-- how many below n leave less than l behind them -/
def cntI (c s l : Int) (n : Nat) : Int := (((List.range n).filter (fun u : Nat => decide ((c - (u : Int)) % s < l))).length : Int)
theorem cnt_succ (c s l : Int) (n : Nat) : cntI c s l (n + 1) = cntI c s l n + if (c - (n : Int)) % s < l then 1 else 0 := by
  unfold cntI
  rw [List.range_succ, List.filter_append, List.length_append]
  by_cases h : (c - (n : Int)) % s < l
  · rw [if_pos h]
    simp [List.filter_cons, h]
  · rw [if_neg h]
    simp [List.filter_cons, h]
theorem cnt_eq {c s l : Int} (hl : 0 ≤ l) (hls : l < s) (h0 : 0 ≤ c) (h1 : c < s) : ∀ n : Nat, cntI c s l n = l * ((n : Int) / s) + pairsI l ((n : Int) % s) c + pairsI l ((n : Int) % s) (c + s)
  | 0 => by
    have hs : 0 < s := by omega
    have e1 : ((0 : Nat) : Int) / s = 0 := Int.zero_ediv s
    have e2 : ((0 : Nat) : Int) % s = 0 := Int.zero_emod s
    rw [e1, e2, pairs_zero hl h0, pairs_zero hl (by omega)]
    show (0 : Int) = l * 0 + 0 + 0
    omega
  | n + 1 => by
    have hs : 0 < s := by omega
    rw [cnt_succ, cnt_eq hl hls h0 h1 n]
    have e := Int.emod_add_mul_ediv (n : Int) s
    have g0 := Int.emod_nonneg (n : Int) (Int.ne_of_gt hs)
    have g1 := Int.emod_lt_of_pos (n : Int) hs
    have ec : ((n + 1 : Nat) : Int) = (n : Int) + 1 := by omega
    rw [ec]
    generalize hr : (n : Int) / s = r at *
    generalize hh : (n : Int) % s = h at *
    -- (c - n) % s
    have em : (c - (n : Int)) % s = if h ≤ c then c - h else c - h + s := by
      split
      · have : c - (n : Int) = (c - h) + s * (-r) := by rw [Int.mul_neg]; omega
        rw [this, Int.add_mul_emod_self_left, Int.emod_eq_of_lt (by omega) (by omega)]
      · have : c - (n : Int) = (c - h + s) + s * (-r - 1) := by rw [Int.mul_sub, Int.mul_neg]; omega
        rw [this, Int.add_mul_emod_self_left, Int.emod_eq_of_lt (by omega) (by omega)]
    rcases Int.lt_or_le (h + 1) s with hlt | hge
    · have d1 : ((n : Int) + 1) / s = r := by
        have : (n : Int) + 1 = (h + 1) + s * r := by omega
        rw [this, Int.add_mul_ediv_left _ _ (Int.ne_of_gt hs), Int.ediv_eq_zero_of_lt (by omega) hlt]
        omega
      have d2 : ((n : Int) + 1) % s = h + 1 := by
        have : (n : Int) + 1 = (h + 1) + s * r := by omega
        rw [this, Int.add_mul_emod_self_left, Int.emod_eq_of_lt (by omega) hlt]
      rw [d1, d2, pairs_step hl g0 h0, pairs_step hl g0 (by omega : 0 ≤ c + s), em]
      generalize pairsI l h c = p1
      generalize pairsI l h (c + s) = p2
      generalize l * r = lr
      split <;> split <;> split <;> split <;> omega
    · have eh : h = s - 1 := by omega
      have d1 : ((n : Int) + 1) / s = r + 1 := by
        have : (n : Int) + 1 = s * (r + 1) := by rw [Int.mul_add]; omega
        rw [this, Int.mul_ediv_cancel_left _ (Int.ne_of_gt hs)]
      have d2 : ((n : Int) + 1) % s = 0 := by
        have : (n : Int) + 1 = s * (r + 1) := by rw [Int.mul_add]; omega
        rw [this, Int.mul_emod_right]
      have f := pairs_full hl hls h0 h1
      have s1 := pairs_step (l := l) (h := h) (t := c) hl g0 h0
      have s2 := pairs_step (l := l) (h := h) (t := c + s) hl g0 (by omega)
      have e3 : h + 1 = s := by omega
      rw [e3] at s1 s2
      rw [d1, d2, pairs_zero hl h0, pairs_zero hl (by omega), em, Int.mul_add]
      generalize pairsI l h c = p1 at *
      generalize pairsI l h (c + s) = p2 at *
      generalize pairsI l s c = p3 at *
      generalize pairsI l s (c + s) = p4 at *
      generalize l * r = lr
      split at s1 <;> split at s2 <;> split <;> split at em <;> omega
/-- the law's own count, row by row -/
theorem law_alike_few {L s c : Int} {W : Nat} (h0 : 0 ≤ c) (h1 : c < s) : L / s * (W : Int) + cntI c s (L % s) W = alikeI L W s c := by
  have hs : 0 < s := by omega
  rw [cnt_eq (Int.emod_nonneg L (Int.ne_of_gt hs)) (Int.emod_lt_of_pos L hs) h0 h1]
  unfold alikeI
  omega
/-- sums below n -/
def sumI (f : Int → Int) : Nat → Int
  | 0 => 0
  | n + 1 => sumI f n + f n
theorem sumI_add (f g : Int → Int) : ∀ n, sumI (fun i => f i + g i) n = sumI f n + sumI g n
  | 0 => rfl
  | n + 1 => by
    show sumI (fun i => f i + g i) n + (f n + g n) = (sumI f n + f n) + (sumI g n + g n)
    rw [sumI_add f g n]
    omega
theorem sumI_const (k : Int) : ∀ n : Nat, sumI (fun _ => k) n = n * k
  | 0 => by
    show (0 : Int) = ((0 : Nat) : Int) * k
    omega
  | n + 1 => by
    show sumI (fun _ => k) n + k = ((n + 1 : Nat) : Int) * k
    rw [sumI_const k n]
    have e : ((n + 1 : Nat) : Int) = (n : Int) + 1 := by omega
    rw [e, Int.add_mul]
    omega
theorem sumI_congr {f g : Int → Int} : ∀ {n : Nat}, (∀ i : Nat, i < n → f i = g i) → sumI f n = sumI g n
  | 0, _ => rfl
  | n + 1, h => by
    show sumI f n + f n = sumI g n + g n
    rw [sumI_congr (n := n) (fun i hi => h i (by omega)), h n (by omega)]
theorem sumI_ind (a b : Int) (h0 : 0 ≤ a) : ∀ n : Nat, sumI (fun t => if a ≤ t ∧ t < a + b then 1 else 0) n = max 0 (min b ((n : Int) - a))
  | 0 => by
    show (0 : Int) = max 0 (min b (((0 : Nat) : Int) - a))
    omega
  | n + 1 => by
    show sumI (fun t => if a ≤ t ∧ t < a + b then 1 else 0) n + (if a ≤ (n : Int) ∧ (n : Int) < a + b then 1 else 0) = _
    rw [sumI_ind a b h0 n]
    split <;> omega
theorem ifc {p q : Prop} [Decidable p] [Decidable q] (h : p ↔ q) {a b : Int} : (if p then a else b) = if q then a else b := by
  by_cases c : p
  · rw [if_pos c, if_pos (h.mp c)]
  · rw [if_neg c, if_neg (fun z => c (h.mpr z))]
theorem sum_pairs {l s : Int} {n : Nat} (hl : 0 ≤ l) (hls : l ≤ s) (hn : (n : Int) = s) : ∀ h : Nat, (h : Int) ≤ s → sumI (fun c => pairsI l h c + pairsI l h (c + s)) n = l * h
  | 0, _ => by
    rw [sumI_congr (g := fun _ => 0) (fun i _ => by
      show pairsI l ((0 : Nat) : Int) i + pairsI l ((0 : Nat) : Int) (i + s) = 0
      rw [show ((0 : Nat) : Int) = 0 from rfl, pairs_zero hl (by omega), pairs_zero hl (by omega)]
      rfl), sumI_const]
    show (n : Int) * 0 = l * 0
    omega
  | h + 1, hh => by
    have ih := sum_pairs hl hls hn h (by omega)
    have e : ((h + 1 : Nat) : Int) = (h : Int) + 1 := by omega
    have step : sumI (fun c => pairsI l ((h + 1 : Nat) : Int) c + pairsI l ((h + 1 : Nat) : Int) (c + s)) n
        = sumI (fun c => (pairsI l h c + pairsI l h (c + s)) + ((if (h : Int) ≤ c ∧ c < (h : Int) + l then 1 else 0) + (if (h : Int) - s ≤ c ∧ c < (h : Int) - s + l then 1 else 0))) n := by
      refine sumI_congr fun i hi => ?_
      rw [e, pairs_step hl (by omega) (by omega), pairs_step hl (by omega) (by omega : 0 ≤ (i : Int) + s)]
      have q1 : ((h : Int) ≤ (i : Int) + s ∧ (i : Int) + s < (h : Int) + l) ↔ ((h : Int) - s ≤ (i : Int) ∧ (i : Int) < (h : Int) - s + l) := by omega
      rw [ifc q1]
      omega
    have z : sumI (fun c => (if (h : Int) - s ≤ c ∧ c < (h : Int) - s + l then (1 : Int) else 0)) n = sumI (fun c => if (0 : Int) ≤ c ∧ c < 0 + max 0 ((h : Int) - s + l) then 1 else 0) n := by
      refine sumI_congr fun i hi => ?_
      have q1 : ((h : Int) - s ≤ (i : Int) ∧ (i : Int) < (h : Int) - s + l) ↔ ((0 : Int) ≤ (i : Int) ∧ (i : Int) < 0 + max 0 ((h : Int) - s + l)) := by omega
      show (if (h : Int) - s ≤ (i : Int) ∧ (i : Int) < (h : Int) - s + l then (1 : Int) else 0) = if (0 : Int) ≤ (i : Int) ∧ (i : Int) < 0 + max 0 ((h : Int) - s + l) then 1 else 0
      rw [ifc q1]
    rw [step, sumI_add, ih, sumI_add, z, sumI_ind _ _ (by omega), sumI_ind _ _ (by omega), e, Int.mul_add]
    omega
theorem sum_alike {L W s : Int} {n : Nat} (hs : 0 < s) (hn : (n : Int) = s) (hW : 0 ≤ W) : sumI (fun c => alikeI L W s c) n = L * W := by
  have h1 := Int.emod_nonneg L (Int.ne_of_gt hs)
  have h2 := Int.emod_nonneg W (Int.ne_of_gt hs)
  have g1 := Int.emod_lt_of_pos L hs
  have g2 := Int.emod_lt_of_pos W hs
  have e1 := Int.emod_add_mul_ediv L s
  have e2 := Int.emod_add_mul_ediv W s
  have e : sumI (fun c => alikeI L W s c) n = sumI (fun c => (L / s * W + L % s * (W / s)) + (pairsI (L % s) (W % s) c + pairsI (L % s) (W % s) (c + s))) n := sumI_congr fun i _ => by
    unfold alikeI
    omega
  obtain ⟨h, hh⟩ := Int.eq_ofNat_of_zero_le h2
  rw [e, sumI_add, sumI_const, hh, sum_pairs h1 (by omega) hn h (by omega), ← hh, hn]
  generalize L / s = q at *
  generalize W / s = r at *
  generalize L % s = l at *
  generalize W % s = k at *
  have x1 : L * W = (l + s * q) * W := by rw [e1]
  have x2 : (l + s * q) * W = l * W + s * q * W := Int.add_mul _ _ _
  have x3 : l * W = l * k + l * (s * r) := by rw [← Int.mul_add, e2]
  have x4 : s * (q * W + l * r) = s * q * W + l * (s * r) := by rw [Int.mul_add, Int.mul_assoc, Int.mul_left_comm s l r]
  omega
/-- two colours that aren't alike many -/
theorem alike_differ {L W s : Int} (hs : 0 < s) (hl : 0 < L % s) (hh : 0 < W % s) : ∃ c d : Int, 0 ≤ c ∧ c < s ∧ 0 ≤ d ∧ d < s ∧ alikeI L W s c ≠ alikeI L W s d := by
  have g1 := Int.emod_lt_of_pos L hs
  have g2 := Int.emod_lt_of_pos W hs
  refine ⟨min (L % s) (W % s) - 1, s - 1, by omega, by omega, by omega, by omega, ?_⟩
  unfold alikeI pairsI
  generalize L / s * W = x
  generalize L % s * (W / s) = y
  omega
theorem alike_same {L W s c : Int} (hs : 0 < s) (h0 : 0 ≤ c) (h : L % s = 0 ∨ W % s = 0) : alikeI L W s c = L / s * W + L % s * (W / s) := by
  have h1 := Int.emod_nonneg L (Int.ne_of_gt hs)
  have h2 := Int.emod_nonneg W (Int.ne_of_gt hs)
  unfold alikeI
  rcases h with e | e
  · rw [e, pairs_swap (t := c) (by omega) h2, pairs_swap (t := c + s) (by omega) h2, pairs_zero h2 h0, pairs_zero h2 (by omega)]
    omega
  · rw [e, pairs_zero h1 h0, pairs_zero h1 (by omega)]
    omega
end BF

namespace BF
open PySem PySem.Spec PyProof.Rows L2
def topS (i : Nat) : Stmt := PySem.Challenge.pw_brickfloor_k07_refused.main.body.getD i (.Pass ⟨0, 0, 0, 0⟩)
abbrev s__wall : Stmt := topS 0
abbrev s_is_number : Stmt := topS 10
abbrev s_check_sizes : Stmt := topS 11
abbrev s_shared : Stmt := topS 12
abbrev s_parts_of : Stmt := topS 13
abbrev s_sum_of : Stmt := topS 14
abbrev s_is_striped : Stmt := topS 17
abbrev s_what_bars : Stmt := topS 18
abbrev s_Laid_shows : Stmt := inClass (topS 19) 0
abbrev s_Striped___init__ : Stmt := inClass (topS 20) 0
abbrev s_Striped_shows : Stmt := inClass (topS 20) 1
abbrev s_Short___init__ : Stmt := inClass (topS 21) 0
abbrev s_Short_shows : Stmt := inClass (topS 21) 1
abbrev s_is_beyond : Stmt := topS 22
abbrev s_covers : Stmt := topS 23
abbrev s_is_cell : Stmt := topS 24
abbrev s_often : Stmt := topS 25
abbrev s_Full_shows : Stmt := inClass (topS 26) 0
abbrev s_Beyond___init__ : Stmt := inClass (topS 27) 0
abbrev s_Beyond_shows : Stmt := inClass (topS 27) 1
abbrev s_Twice___init__ : Stmt := inClass (topS 28) 0
abbrev s_Twice_shows : Stmt := inClass (topS 28) 1
abbrev s_Bare___init__ : Stmt := inClass (topS 29) 0
abbrev s_Bare_shows : Stmt := inClass (topS 29) 1
abbrev s_told : Stmt := topS 31
abbrev s_check_laid : Stmt := topS 32
abbrev s_plan : Stmt := topS 33
abbrev s_brick_on : Stmt := topS 34
abbrev s_lying : Stmt := topS 35
abbrev s_standing : Stmt := topS 36
abbrev s_is_brick : Stmt := topS 39
abbrev s_judged : Stmt := topS 40
abbrev s_pairs_to : Stmt := topS 42
abbrev s_alike : Stmt := topS 43
abbrev s__law_with_size : Stmt := topS 45
abbrev s__law_with_cell : Stmt := topS 46
abbrev s__law_with_colour : Stmt := topS 47
abbrev s__law_with_bricks : Stmt := topS 48
abbrev s__law_with_great : Stmt := topS 49
abbrev s__law_due : Stmt := topS 50
abbrev s__law_bad_sizes : Stmt := topS 51
abbrev s__law_bad_cells : Stmt := topS 52
abbrev s__law_bad_colours : Stmt := topS 53
abbrev s__law_bad_bricks : Stmt := topS 54
abbrev s__law_great : Stmt := topS 55
abbrev s_law : Stmt := topS 56
theorem sc__wall : FnScope ["k"] ["k"] (defScope s__wall) := ⟨rfl, rfl, rfl, by decide +kernel, rfl, by decide +kernel, by decide +kernel⟩
theorem sc_is_number : FnScope ["thing"] ["thing"] (defScope s_is_number) := ⟨rfl, rfl, rfl, by decide +kernel, rfl, by decide +kernel, by decide +kernel⟩
theorem sc_check_sizes : FnScope ["some", "one"] ["some"] (defScope s_check_sizes) := ⟨rfl, rfl, rfl, by decide +kernel, rfl, by decide +kernel, by decide +kernel⟩
theorem sc_shared : FnScope ["one", "other", "mine", "theirs", "by", "often"] ["one", "other"] (defScope s_shared) := ⟨rfl, rfl, rfl, by decide +kernel, rfl, by decide +kernel, by decide +kernel⟩
theorem sc_parts_of : FnScope ["size", "first", "second", "by", "turned", "few"] ["size", "first", "second"] (defScope s_parts_of) := ⟨rfl, rfl, rfl, by decide +kernel, rfl, by decide +kernel, by decide +kernel⟩
theorem sc_sum_of : FnScope ["size", "first", "second"] ["size", "first", "second"] (defScope s_sum_of) := ⟨rfl, rfl, rfl, by decide +kernel, rfl, by decide +kernel, by decide +kernel⟩
theorem sc_is_striped : FnScope ["length", "width", "side"] ["length", "width", "side"] (defScope s_is_striped) := ⟨rfl, rfl, rfl, by decide +kernel, rfl, by decide +kernel, by decide +kernel⟩
theorem sc_what_bars : FnScope ["length", "width", "first", "second", "striped", "short", "which", "side"] ["length", "width", "first", "second"] (defScope s_what_bars) := ⟨rfl, rfl, rfl, by decide +kernel, rfl, by decide +kernel, by decide +kernel⟩
theorem sc_Laid_shows : FnScope ["self", "length", "width", "first", "second"] ["self", "length", "width", "first", "second"] (defScope s_Laid_shows) := ⟨rfl, rfl, rfl, by decide +kernel, rfl, by decide +kernel, by decide +kernel⟩
theorem sc_Striped___init__ : FnScope ["self", "which"] ["self", "which"] (defScope s_Striped___init__) := ⟨rfl, rfl, rfl, by decide +kernel, rfl, by decide +kernel, by decide +kernel⟩
theorem sc_Striped_shows : FnScope ["self", "length", "width", "first", "second"] ["self", "length", "width", "first", "second"] (defScope s_Striped_shows) := ⟨rfl, rfl, rfl, by decide +kernel, rfl, by decide +kernel, by decide +kernel⟩
theorem sc_Short___init__ : FnScope ["self", "which"] ["self", "which"] (defScope s_Short___init__) := ⟨rfl, rfl, rfl, by decide +kernel, rfl, by decide +kernel, by decide +kernel⟩
theorem sc_Short_shows : FnScope ["self", "length", "width", "first", "second"] ["self", "length", "width", "first", "second"] (defScope s_Short_shows) := ⟨rfl, rfl, rfl, by decide +kernel, rfl, by decide +kernel, by decide +kernel⟩
theorem sc_is_beyond : FnScope ["length", "width", "first", "second", "brick", "long", "high"] ["length", "width", "first", "second", "brick"] (defScope s_is_beyond) := ⟨rfl, rfl, rfl, by decide +kernel, rfl, by decide +kernel, by decide +kernel⟩
theorem sc_covers : FnScope ["first", "second", "brick", "cell", "long", "high"] ["first", "second", "brick", "cell"] (defScope s_covers) := ⟨rfl, rfl, rfl, by decide +kernel, rfl, by decide +kernel, by decide +kernel⟩
theorem sc_is_cell : FnScope ["length", "width", "thing"] ["length", "width", "thing"] (defScope s_is_cell) := ⟨rfl, rfl, rfl, by decide +kernel, rfl, by decide +kernel, by decide +kernel⟩
theorem sc_often : FnScope ["first", "second", "bricks", "cell", "brick"] ["first", "second", "bricks", "cell"] (defScope s_often) := ⟨rfl, rfl, rfl, by decide +kernel, rfl, by decide +kernel, by decide +kernel⟩
theorem sc_Full_shows : FnScope ["self", "length", "width", "first", "second", "bricks"] ["self", "length", "width", "first", "second", "bricks"] (defScope s_Full_shows) := ⟨rfl, rfl, rfl, by decide +kernel, rfl, by decide +kernel, by decide +kernel⟩
theorem sc_Beyond___init__ : FnScope ["self", "count"] ["self", "count"] (defScope s_Beyond___init__) := ⟨rfl, rfl, rfl, by decide +kernel, rfl, by decide +kernel, by decide +kernel⟩
theorem sc_Beyond_shows : FnScope ["self", "length", "width", "first", "second", "bricks"] ["self", "length", "width", "first", "second", "bricks"] (defScope s_Beyond_shows) := ⟨rfl, rfl, rfl, by decide +kernel, rfl, by decide +kernel, by decide +kernel⟩
theorem sc_Twice___init__ : FnScope ["self", "cell"] ["self", "cell"] (defScope s_Twice___init__) := ⟨rfl, rfl, rfl, by decide +kernel, rfl, by decide +kernel, by decide +kernel⟩
theorem sc_Twice_shows : FnScope ["self", "length", "width", "first", "second", "bricks"] ["self", "length", "width", "first", "second", "bricks"] (defScope s_Twice_shows) := ⟨rfl, rfl, rfl, by decide +kernel, rfl, by decide +kernel, by decide +kernel⟩
theorem sc_Bare___init__ : FnScope ["self", "cell"] ["self", "cell"] (defScope s_Bare___init__) := ⟨rfl, rfl, rfl, by decide +kernel, rfl, by decide +kernel, by decide +kernel⟩
theorem sc_Bare_shows : FnScope ["self", "length", "width", "first", "second", "bricks"] ["self", "length", "width", "first", "second", "bricks"] (defScope s_Bare_shows) := ⟨rfl, rfl, rfl, by decide +kernel, rfl, by decide +kernel, by decide +kernel⟩
theorem sc_told : FnScope ["length", "width", "first", "second", "striped", "short"] ["length", "width", "first", "second"] (defScope s_told) := ⟨rfl, rfl, rfl, by decide +kernel, rfl, by decide +kernel, by decide +kernel⟩
theorem sc_check_laid : FnScope ["length", "width", "first", "second"] ["length", "width", "first", "second"] (defScope s_check_laid) := ⟨rfl, rfl, rfl, by decide +kernel, rfl, by decide +kernel, by decide +kernel⟩
theorem sc_plan : FnScope ["length", "width", "first", "second"] ["length", "width", "first", "second"] (defScope s_plan) := ⟨rfl, rfl, rfl, by decide +kernel, rfl, by decide +kernel, by decide +kernel⟩
theorem sc_brick_on : FnScope ["length", "width", "first", "second", "cell", "along", "up", "begin", "low", "corner"] ["length", "width", "first", "second", "cell"] (defScope s_brick_on) := ⟨rfl, rfl, rfl, by decide +kernel, rfl, by decide +kernel, by decide +kernel⟩
theorem sc_lying : FnScope ["length", "width", "first", "second", "along", "up"] ["length", "width", "first", "second"] (defScope s_lying) := ⟨rfl, rfl, rfl, by decide +kernel, rfl, by decide +kernel, by decide +kernel⟩
theorem sc_standing : FnScope ["length", "width", "first", "second", "many"] ["length", "width", "first", "second"] (defScope s_standing) := ⟨rfl, rfl, rfl, by decide +kernel, rfl, by decide +kernel, by decide +kernel⟩
theorem sc_is_brick : FnScope ["thing"] ["thing"] (defScope s_is_brick) := ⟨rfl, rfl, rfl, by decide +kernel, rfl, by decide +kernel, by decide +kernel⟩
theorem sc_judged : FnScope ["length", "width", "first", "second", "bricks", "count", "brick", "along", "up", "many"] ["length", "width", "first", "second", "bricks"] (defScope s_judged) := ⟨rfl, rfl, rfl, by decide +kernel, rfl, by decide +kernel, by decide +kernel⟩
theorem sc_pairs_to : FnScope ["long", "high", "sum_wanted"] ["long", "high", "sum_wanted"] (defScope s_pairs_to) := ⟨rfl, rfl, rfl, by decide +kernel, rfl, by decide +kernel, by decide +kernel⟩
theorem sc_alike : FnScope ["length", "width", "size", "colour", "long", "high", "whole"] ["length", "width", "size", "colour"] (defScope s_alike) := ⟨rfl, rfl, rfl, by decide +kernel, rfl, by decide +kernel, by decide +kernel⟩
theorem sc__law_with_size : FnScope ["_law_door", "_law_thing", "_law_sizes"] ["_law_door", "_law_thing"] (defScope s__law_with_size) := ⟨rfl, rfl, rfl, by decide +kernel, rfl, by decide +kernel, by decide +kernel⟩
theorem sc__law_with_cell : FnScope ["_law_door", "_law_thing"] ["_law_door", "_law_thing"] (defScope s__law_with_cell) := ⟨rfl, rfl, rfl, by decide +kernel, rfl, by decide +kernel, by decide +kernel⟩
theorem sc__law_with_colour : FnScope ["_law_door", "_law_thing"] ["_law_door", "_law_thing"] (defScope s__law_with_colour) := ⟨rfl, rfl, rfl, by decide +kernel, rfl, by decide +kernel, by decide +kernel⟩
theorem sc__law_with_bricks : FnScope ["_law_door", "_law_thing"] ["_law_door", "_law_thing"] (defScope s__law_with_bricks) := ⟨rfl, rfl, rfl, by decide +kernel, rfl, by decide +kernel, by decide +kernel⟩
theorem sc__law_with_great : FnScope ["_law_door", "_law_thing"] ["_law_door", "_law_thing"] (defScope s__law_with_great) := ⟨rfl, rfl, rfl, by decide +kernel, rfl, by decide +kernel, by decide +kernel⟩
theorem sc__law_due : FnScope ["_law_ask", "_law_door", "_law_thing", "_law_due_here", "error", "_law_found", "_law_k"] ["_law_ask", "_law_door", "_law_thing", "_law_due_here"] (defScope s__law_due) := ⟨rfl, rfl, rfl, by decide +kernel, rfl, by decide +kernel, by decide +kernel⟩
theorem sc__law_bad_sizes : FnScope ["_law_cell"] ["_law_cell"] (defScope s__law_bad_sizes) := ⟨rfl, rfl, rfl, by decide +kernel, rfl, by decide +kernel, by decide +kernel⟩
theorem sc__law_bad_cells : FnScope ["_law_cell", "_law_some"] ["_law_cell"] (defScope s__law_bad_cells) := ⟨rfl, rfl, rfl, by decide +kernel, rfl, by decide +kernel, by decide +kernel⟩
theorem sc__law_bad_colours : FnScope ["_law_cell"] ["_law_cell"] (defScope s__law_bad_colours) := ⟨rfl, rfl, rfl, by decide +kernel, rfl, by decide +kernel, by decide +kernel⟩
theorem sc__law_bad_bricks : FnScope ["_law_cell", "_law_bad", "_law_many", "_law_at", "_law_one"] ["_law_cell"] (defScope s__law_bad_bricks) := ⟨rfl, rfl, rfl, by decide +kernel, rfl, by decide +kernel, by decide +kernel⟩
theorem sc__law_great : FnScope ["_law_cell"] ["_law_cell"] (defScope s__law_great) := ⟨rfl, rfl, rfl, by decide +kernel, rfl, by decide +kernel, by decide +kernel⟩
theorem sc_law : FnScope ["_law_script", "_law_kinds", "_law_ask", "_law_doors", "_law_things", "_law_due_here", "_law_door", "_law_cell", "_law_some", "_law_thing"] ["_law_script"] (defScope s_law) := ⟨rfl, rfl, rfl, by decide +kernel, rfl, by decide +kernel, by decide +kernel⟩
/-- the built-ins that the text names are free -/
structure Bi (mg : Str → Option Value) : Prop where
  ValueError : mg "ValueError" = none
  all : mg "all" = none
  bool : mg "bool" = none
  enumerate : mg "enumerate" = none
  int : mg "int" = none
  isinstance : mg "isinstance" = none
  len : mg "len" = none
  list : mg "list" = none
  max : mg "max" = none
  min : mg "min" = none
  range : mg "range" = none
  tuple : mg "tuple" = none
end BF

/-! ### small helpers for the laws: the script's cells, picks out of four, sizes of drawn numbers -/
namespace BF
open PySem PySem.Spec PyProof.Rows L2
inductive SpLaw (K : PySem.W.Frag) : Sp where
  | mk {a : Addr} {ns : List Int} {H : Hp} {Q : VK} {E : XK} (hl : ns.length ≤ 63) (hb : ∀ z ∈ ns, Builtin.Int.intBits z ≤ 1048576) (hS : SqL K H a (ns.map V.int)) (q : ∀ H', Q (.bl true) H') : SpLaw K [.ref a] H Q E
theorem bn_of_lt {x : Int} (h0 : 0 ≤ x) (h : x < 10 ^ 60) : Bn 200 x := by
  refine ⟨?_⟩
  have e : (10 : Int) ^ 60 = ((10 ^ 60 : Nat) : Int) := by decide
  have l : (10 : Nat) ^ 60 < 2 ^ 200 := by decide
  rw [e] at h
  omega
theorem sz_of_lt {x : Int} (h0 : 0 < x) (h : x < 10 ^ 60) : Sz x := ⟨h0, (bn_of_lt (by omega) h).mono (by decide)⟩
theorem cut_map {α β : Type} (f : α → β) (xs : List α) (lo hi : Nat) : ((xs.map f).drop lo).take hi = ((xs.drop lo).take hi).map f := by
  rw [← List.map_drop, ← List.map_take]
theorem cut_ints (ns : List Int) (lo hi : Option Int) : ∃ ms : List Int, cutV (ns.map V.int) lo hi = ms.map V.int := by
  unfold cutV
  exact ⟨_, cut_map V.int ns _ _⟩
theorem at_cell {ns : List Int} {k : Int} (h0 : -(ns.length : Int) ≤ k) (h1 : k < ns.length) : ∃ c, c ∈ ns ∧ atI (ns.map V.int) k = some (.int c) := by
  rcases Int.lt_or_le k 0 with hk | hk
  · have hj : (k + ns.length).toNat < ns.length := by omega
    refine ⟨ns[(k + ns.length).toNat], List.getElem_mem _, ?_⟩
    have e : ixN (ns.map V.int).length k = some (k + ns.length).toNat := by
      unfold ixN
      rw [List.length_map, if_neg (by omega), if_pos (by omega)]
    unfold atI
    rw [e]
    show (ns.map V.int)[(k + ns.length).toNat]? = _
    rw [List.getElem?_map, List.getElem?_eq_getElem hj]
    rfl
  · have hj : k.toNat < ns.length := by omega
    refine ⟨ns[k.toNat], List.getElem_mem _, ?_⟩
    obtain ⟨j, rfl⟩ := Int.eq_ofNat_of_zero_le hk
    refine atI_nat ?_
    rw [List.getElem?_map]
    have hj2 : j < ns.length := by omega
    rw [List.getElem?_eq_getElem hj2]
    rfl
theorem pick4 {x0 x1 x2 x3 : V} {k : Int} (h0 : 0 ≤ k) (h4 : k < 4) : ∃ v, atI [x0, x1, x2, x3] k = some v ∧ (v = x0 ∨ v = x1 ∨ v = x2 ∨ v = x3) := by
  have e : k = 0 ∨ k = 1 ∨ k = 2 ∨ k = 3 := by omega
  rcases e with rfl | rfl | rfl | rfl
  · exact ⟨x0, rfl, .inl rfl⟩
  · exact ⟨x1, rfl, .inr (.inl rfl)⟩
  · exact ⟨x2, rfl, .inr (.inr (.inl rfl))⟩
  · exact ⟨x3, rfl, .inr (.inr (.inr rfl))⟩
end BF

/-! ### data at any depth, in a heap that grows -/
namespace BF
open PySem PySem.Spec PyProof.Rows L2
theorem at0 {x : V} {xs : List V} : atI (x :: xs) 0 = some x := by
  show atI (x :: xs) ((0 : Nat) : Int) = some x
  exact atI_nat rfl
mutual
theorem dpS {K : PySem.W.Frag} {H H' : Hp} (sm : Same H H') : ∀ {d : PyData} {v : V}, Dp K H v d → Dp K H' v d
  | .none, _, h => by cases h; exact .non
  | .bool b, _, h => by cases h; exact .bl b
  | .int i, _, h => by cases h; exact .int i
  | .str x, _, h => by cases h; exact .str x
  | .list ds, _, h => by
    cases h with
    | lst hs ha => exact .lst (sm.seq hs) (dpsS sm ha)
  | .tuple ds, _, h => by
    cases h with
    | tup hs ha => exact .tup (Same.tup sm hs) (dpsS sm ha)
theorem dpsS {K : PySem.W.Frag} {H H' : Hp} (sm : Same H H') : ∀ {ds : List PyData} {vs : List V}, DpAll K H vs ds → DpAll K H' vs ds
  | [], _, h => by cases h; exact .nil
  | d :: ds, _, h => by
    cases h with
    | cons h1 h2 => exact .cons (dpS sm h1) (dpsS sm h2)
end
/-- shaped, at most n deep -/
structure Shp (n : Nat) (d : PyData) : Prop where
  c : PyData.canLay0 d = true
  h : PyData.depth d ≤ n
theorem Shp.ok {n : Nat} {d : PyData} (s : Shp n d) (h : n ≤ 64) : SeqAt.shaped d = true := Bool.and_eq_true_iff.mpr ⟨s.c, decide_eq_true (Nat.le_trans s.h h)⟩
theorem shp_all {n : Nat} : ∀ {ds : List PyData}, (∀ d ∈ ds, Shp n d) → PyData.canLayAll0 ds = true ∧ PyData.depthAll ds ≤ n
  | [], _ => ⟨rfl, by simp [PyData.depthAll]⟩
  | d :: ds, h => by
    obtain ⟨a, b⟩ := shp_all (ds := ds) fun d hd => h d (List.mem_cons_of_mem _ hd)
    have c := h d (by simp)
    refine ⟨?_, ?_⟩
    · rw [PyData.canLayAll0, c.c, a]
      rfl
    · rw [PyData.depthAll]
      exact Nat.max_le.mpr ⟨c.h, b⟩
theorem shp_list {n : Nat} {ds : List PyData} (h : ∀ d ∈ ds, Shp n d) : Shp (n + 1) (.list ds) := by
  obtain ⟨a, b⟩ := shp_all h
  refine ⟨by rw [PyData.canLay0]; exact a, ?_⟩
  rw [PyData.depth]
  omega
theorem shp_tuple {n : Nat} {ds : List PyData} (h : ∀ d ∈ ds, Shp n d) : Shp (n + 1) (.tuple ds) := by
  obtain ⟨a, b⟩ := shp_all h
  refine ⟨by rw [PyData.canLay0]; exact a, ?_⟩
  rw [PyData.depth]
  omega
theorem shp_int (i : Int) : Shp 1 (.int i) := ⟨rfl, by simp [PyData.depth]⟩
theorem shp_bool (b : Bool) : Shp 1 (.bool b) := ⟨rfl, by simp [PyData.depth]⟩
theorem shp_ints (xs : List Int) : SeqAt.shaped (.list (xs.map .int)) = true := (shp_list (n := 1) fun d hd => by
  obtain ⟨i, _, rfl⟩ := List.mem_map.mp hd
  exact shp_int i).ok (by decide)
theorem ne_nil (xs : List Int) : (!PyData.eqv (.list (xs.map .int)) (.list [])) = !xs.isEmpty := by
  cases xs with
  | nil => rfl
  | cons x xs => rfl
theorem dp_ints {K : PySem.W.Frag} {H : Hp} : ∀ xs : List Int, DpAll K H (xs.map V.int) (xs.map PyData.int)
  | [] => .nil
  | x :: xs => .cons (.int x) (dp_ints xs)
end BF

/-! ### xs.count(y), flat items -/
namespace BF
open PySem PySem.Spec PyProof.Rows L2
theorem count_eqU {x : V} : ∀ {xs : List V} {us : List Value}, Vals xs us → xs.all flatV = true → us.countP (eqU x) = xs.countP fun y => eqV y x
  | _, _, .nil, _ => rfl
  | y :: xs, u :: us, .cons r t, f => by
    rw [List.all_cons, Bool.and_eq_true] at f
    rw [List.countP_cons, List.countP_cons, count_eqU t f.2, eqU_of r f.1]
def rCntV (K : PySem.W.Frag) : V → List V → Hp → VK → Prop := fun x xs H Q => ∃ (p : Addr) (ys : List V) (y : V), x = .ref p ∧ xs = [y] ∧ SqL K H p ys ∧ flatV y = true ∧ ys.all flatV = true ∧ Q (.int (ys.countP (fun z => eqV z y) : Nat)) H
theorem mt_count {X : Cx} : MtR X "list.count" (rCntV X.K) := by
  intro pins s σ H x xs v us Q I rx rxs h
  obtain ⟨p, ys, y, rfl, rfl, hs, fy, fa, q⟩ := h
  cases rx
  obtain ⟨u, rfl, ru⟩ := rxs.one
  obtain ⟨its, rv, ⟨⟨cls, dd, data, sl⟩, n, ho, hc, hdn, hd⟩, hlen⟩ := I.list hs
  simp only at hc hd
  subst hc hd
  refine call_meets PySem.F.slot_list_count ⟨_, ho, rfl⟩ PySem.F.entry_list_count (PySem.F.args_list_count_2 _ _) (SeqAt.list_countAt p its.toArray n dd sl u (eqU y)) ⟨ho, fun z hz => mem_eqAt ru fy rv fa z (by simpa using hz), ?_⟩
  have ec : its.toArray.toList.countP (eqU y) = ys.countP (fun z => eqV z y) := count_eqU rv fa
  refine ⟨.int (ys.countP (fun z => eqV z y) : Nat), H, I.tok _, ⟨s.toks, ?_⟩, q⟩
  rw [ec]
end BF

/-! ### enumerate(tuple) -/
namespace BF
open PySem PySem.Spec PyProof.Rows L2
open PySem.AutoSeq1 (wpAny_loadPart')
theorem enum_newT (l : Addr) (its : Array Value) (n : Nat) (dd : Option Addr) (sl : Array (Option Value)) :
    Meets (Builtin.«enumerate.__new__» ⟨[.type "enumerate", .ref l], []⟩) (fun _ R s => s.heap.get? l = some { cls := .type "tuple", dict := dd, data := .seq its n, slots := sl } ∧
      R (.ok (.ret (.ref (s.heap.push { cls := .type "tuple_iterator", data := .fields #[.ref l, .int 0 0] }).objs.size)))
        { s with heap := (s.heap.push { cls := .type "tuple_iterator", data := .fields #[.ref l, .int 0 0] }).push { cls := .type "enumerate", data := .fields #[.none, .bool false, .ref s.heap.objs.size, rawInt 0, .none, .none] } }) :=
  .of_wp fun prog w A R s h => by
    obtain ⟨hp, g, d, tk, os⟩ := s
    obtain ⟨hl, h⟩ := h
    have sub := sub_enumerate
    have tl : Heap.IsTuple (Shared.heap ⟨hp, g, d, tk, os⟩) l its := ⟨_, hl, rfl, n, rfl⟩
    wp_walk using wpAny_loadPart' hl
    refine wpAny_stack_any fun st => wpAny_pure ?_
    split
    · rename_i c _ _ _ _ _
      cases (c == Value.type "enumerate") <;> (wp_walk using wpAny_loadPart' hl, wpAny_pyIter_tuple tl; exact ⟨_, rfl, h⟩)
    · wp_walk using wpAny_loadPart' hl, wpAny_pyIter_tuple tl
      exact ⟨_, rfl, h⟩
theorem call_enumT {prog : Program} {w : World} {A : Around} {E : Value → Shared → Prop} {s : Shared} {l : Addr} {items : Array Value} {Q : Value → Shared → Prop} (hL : IsTup s.heap l items)
    (h : ∀ h', IsEnum h' (s.heap.objs.size + 1) s.heap.objs.size 0 .none → h'.IsTupleIter s.heap.objs.size l 0 → (∀ b o, s.heap.get? b = some o → h'.get? b = some o) → Q (.ref (s.heap.objs.size + 1)) { s with heap := h' }) :
    wpAny (model prog w) A (call (.type "enumerate") [.ref l]) Q E s := by
  obtain ⟨⟨c, dd, dt, sl⟩, hl, e1, n, e2⟩ := hL
  simp only at e1 e2
  subst e1 e2
  refine callType_new F.called_enumerate (by decide) (F.typeCall_enumerate_1 _) (F.newCall_enumerate_1 _) (fun obj => F.args_object_init_2 obj _) F.entry_enumerate_new (enum_newT l items n dd sl) ⟨hl, ?_⟩
  have hz : (s.heap.push { cls := .type "tuple_iterator", data := .fields #[.ref l, .int 0 0] }).objs.size = s.heap.objs.size + 1 := Heap.size_push ..
  show _ ∧ _
  rw [hz]
  have he : IsEnum ((s.heap.push { cls := .type "tuple_iterator", data := .fields #[.ref l, .int 0 0] }).push { cls := .type "enumerate", data := .fields #[.none, .bool false, .ref s.heap.objs.size, rawInt 0, .none, .none] }) (s.heap.objs.size + 1) s.heap.objs.size 0 .none := by
    have z := Heap.get?_push_size (s.heap.push { cls := .type "tuple_iterator", data := .fields #[.ref l, .int 0 0] }) (o := { cls := .type "enumerate", data := .fields #[.none, .bool false, .ref s.heap.objs.size, rawInt 0, .none, .none] }) rfl
    rw [hz] at z
    exact z
  exact ⟨⟨_, he, rfl⟩, h _ he ⟨_, Heap.get?_push_of_some _ (Heap.get?_push_size _ rfl), rfl, rfl⟩ fun b o x => Heap.get?_push_of_some _ (Heap.get?_push_of_some _ x)⟩
theorem enum_endT {prog : Program} {w : World} {A : Around} {E : Value → Shared → Prop} {s : Shared} {e it t : Addr} {j : Nat} {i : Int} {old : Value} {items : Array Value} {Q : Option Value → Shared → Prop} (hh : A.in1.handled = none) (he : IsEnum s.heap e it i old)
    (hit : s.heap.IsTupleIter it t j) (ht : s.heap.IsTuple t items) (hx : items[j]? = none) (hQ : ∀ h', Heap.ExtBut it s.heap h' → Q none { s with heap := h' }) : wpAny (model prog w) A (pyNext (.ref e)) Q E s := by
  have ty : s.TypeIs (.ref e) "enumerate" := ⟨_, he, rfl⟩
  unfold pyNext
  refine wpAny_bind (wpAny_attempt (wpAny_callSpecial?_slot (name := Str.ofString "__next__") ty F.slot_enumerate_next (wpAny_call_entry F.slot_enumerate_next ty F.entry_enumerate_next ?_ (F.args_enumerate_next_1 _))))
  show wpAny _ _ (field (.ref e) 2 >>= _) _ _ _
  refine wpAny_bind (wpAny_field he rfl (x := .ref it) rfl (wpAny_bind (wpAny_nextOf_tuple_end hh hit ht hx fun h' x he' ⟨o, ho, hc⟩ => ?_)))
  exact wpAny_bind (wpAny_isInstance (T := "StopIteration") (b := true) ⟨o, ho, hc⟩ isSubtype_stop (wpAny_pure (hQ _ he')))
/-- the tuple at a, each item in a new pair -/
def IteT (K : PySem.W.Frag) (a : Addr) : It :=
  ⟨fun i H => ∃ (xs : List V) (x : V), SqT K H a xs ∧ xs[i]? = some x, fun i H v H' => ∃ T x, v = .ref T ∧ H T = none ∧ H' = upd H T (.tup [.int (i : Nat), x]) ∧ ∀ xs, SqT K H a xs → xs[i]? = some x, fun i H => ∃ xs : List V, SqT K H a xs ∧ xs.length ≤ i⟩
theorem turn_enumT {P : Program} {w : World} {K : PySem.W.Frag} {elts : List Expr} {kk : Nat} {tpos : Pos} (a e it : Addr) :
    Turn P w K (.Tuple elts kk tpos) (IteT K a) [e, it] e (fun i h => (∃ old, IsEnum h e it ((i : Nat) : Int) old) ∧ h.IsTupleIter it a i ∧ e ≠ it ∧ a ≠ it ∧ e ≠ a) where
  mem := by simp
  obj := fun i h st b hb => by
    obtain ⟨⟨old, he⟩, ⟨o, ho, hc, hd⟩, _⟩ := st
    have z : b = e ∨ b = it := by simpa using hb
    rcases z with rfl | rfl
    · exact ⟨_, he, fun v q => nomatch q⟩
    · exact ⟨o, ho, fun v q => by rw [hd] at q; cases q⟩
  keep := fun i h h' st k => let ⟨⟨old, he⟩, hi, r⟩ := st; ⟨⟨old, k e (by simp) _ he⟩, hi.at fun o q => k it (by simp) o q, r⟩
  item := by
    intro X hP hw hK hc i pins s σ H E I hf st hg
    subst hP hw hK
    obtain ⟨⟨old, he⟩, hit, hne, hai, hea⟩ := st
    obtain ⟨xs, x, hq, hx⟩ := hg
    obtain ⟨its, rv, p, hz⟩ := I.tuple hq
    obtain ⟨u, hu, ru⟩ := rv.get hx
    have hel : e < s.heap.objs.size := Heap.lt_size he
    have hil : it < s.heap.objs.size := by obtain ⟨_, q, _⟩ := hit; exact Heap.lt_size q
    have hd : X.A.in1.handled = none := I.ok.hd hc
    have hlt : i < its.toArray.size := by
      have := (List.getElem?_eq_some_iff.mp hu).1
      simpa using this
    refine wpAny_pyNext_enum_itemD (Draws.tuple hd it a hai its.toArray) he ⟨hit, p⟩ hlt hne (by simp [hne, hea]) fun u' h' tk hu' ho hst hT hsz hk => ?_
    have eu : u' = u := by
      have hu2 : its[i]? = some u' := by simpa using hu'
      rw [hu] at hu2
      exact (Option.some.inj hu2).symm
    subst eu
    refine ⟨_, rfl, wpAny_letOwnedTupleGo_enum (s := { s with heap := h', toks := tk + 1 }) ho fun h'' he' sb => ?_⟩
    have hT2 : h''.get? s.heap.objs.size = some { cls := .type "tuple", data := .seq #[.int i tk, u'] } := (sb.2 _ (Nat.ne_of_gt hel)).trans hT
    have new : ObjOk X.prog X.w (upd H s.heap.objs.size (.tup [.int (i : Nat), x])) h'' s.heap.objs.size (.tup [.int (i : Nat), x]) := ⟨by show 2 ≤ sizeLine; decide, [.int i tk, u'], .cons ⟨_, rfl⟩ (.cons ru .nil), ⟨_, hT2, rfl, _, rfl⟩⟩
    have J : Inv X pins σ (upd H s.heap.objs.size (.tup [.int (i : Nat), x])) { s with heap := h'', toks := tk + 1 } := I.turnedNew (ch := [e, it]) (fun b ob hb q => (sb.2 b (fun z => hb (by simp [z]))).trans (hk b ob (fun z => hb (by simp [z])) (fun z => hb (by simp [z])) q)) hf (Nat.le_refl _) new
    refine ⟨.ref s.heap.objs.size, _, J, rfl, ⟨_, x, rfl, I.hok.fresh (Nat.le_refl _), rfl, fun ys hy => by rw [I.tuple_inj hy hq]; exact hx⟩, ⟨⟨u', ?_⟩, hst.1.at fun o q => (sb.2 it (Ne.symm hne)).trans q, hne, hai, hea⟩, fun b hb => ?_⟩
    · rw [show ((i + 1 : Nat) : Int) = (i : Int) + 1 by omega]
      exact he'
    · have hb' : b < s.heap.objs.size := by
        have z : b = e ∨ b = it := by simpa using hb
        rcases z with rfl | rfl
        · exact hel
        · exact hil
      rw [upd_ne (Nat.ne_of_lt hb')]
      exact (hf b hb).1
  done := by
    intro X hP hw hK hc i pins s σ H E I hf st hg
    subst hP hw hK
    obtain ⟨⟨old, he⟩, hit, hne, hai, hea⟩ := st
    obtain ⟨xs, hq, hx⟩ := hg
    obtain ⟨its, rv, p, hz⟩ := I.tuple hq
    obtain ⟨f0, f1, f2, f3, f4, f5⟩ := hf it (by simp)
    have hd : X.A.in1.handled = none := I.ok.hd hc
    have hl := rv.length
    exact enum_endT hd he hit p (by simp; omega) fun h' eb => ⟨rfl, I.turned (t' := s.toks) (fun b o hb q => eb b o hb q) f0 f1 f3 f4 f5⟩
  self := fun A i s Q E st h => let ⟨⟨_, he⟩, _⟩ := st; wpAny_pyIter_enum he h
def iEnumT (K : PySem.W.Frag) (ta : TA) : TI := fun σ H R => ta σ H fun vs H1 => ∃ a xs, vs = [.ref a] ∧ SqT K H1 a xs ∧ R (IteT K a) H1
theorem pi_enumT {X : Cx} {e : Expr} {ta : TA} {p pos tpos : Pos} {elts : List Expr} {kk : Nat} (hg : Gl X "enumerate") (hm : X.mg "enumerate" = none) (ha : PA X [e] ta) (hs : starEach [e] X.env = [(false, eval e X.env)] := by rfl) :
    PI X (.Tuple elts kk tpos) (.Call (.Name "enumerate" p) [e] [] pos) (iEnumT X.K ta) := by
  refine ⟨fun pins s σ H R I h => Call_ (ld_blt I hg hm boot_enumerate (PyProof.Rows.callWith_type1 (thn (ha.run pos pins s σ H _ I h) fun us s1 ⟨vs, H1, J, r1, q1⟩ => ?_) hs rfl))⟩
  obtain ⟨a, xs, ex, hq, q⟩ := q1
  subst ex
  cases r1 with
  | cons r rr =>
    cases rr
    cases r
    obtain ⟨its, rv, tp, hz⟩ := J.tuple hq
    have hal : a < s1.heap.objs.size := by
      obtain ⟨o, ho, _⟩ := tp
      exact Heap.lt_size ho
    refine call_enumT tp fun h' he hit hk => wpAny_pyIter_enum he ?_
    have J2 : Inv X pins σ H1 { s1 with heap := h' } := J.kept (t' := s1.toks) hk
    refine ⟨s1.heap.objs.size + 1, [s1.heap.objs.size + 1, s1.heap.objs.size], _, _, H1, rfl, J2, turn_enumT a (s1.heap.objs.size + 1) s1.heap.objs.size, ⟨⟨.none, he⟩, hit, Nat.succ_ne_self _, Nat.ne_of_lt hal, Nat.ne_of_gt (Nat.lt_succ_of_lt hal)⟩, fun b hb => ?_, q⟩
    have z : b = s1.heap.objs.size + 1 ∨ b = s1.heap.objs.size := by simpa using hb
    have hle : s1.heap.objs.size ≤ b := by
      rcases z with rfl | rfl
      · exact Nat.le_succ _
      · exact Nat.le_refl _
    exact J.fpOk hle (J.hok.fresh hle)
/-- a comprehension over enumerate(tuple) -/
theorem lc_enumT {K : PySem.W.Frag} {a : Addr} {xs : List V} {g : TG} {tt : TT} {te : TE} {vs : List Nat} {σ : L2.St} {H1 : Hp} {D : Addr} {Qd : Hp → Prop} (Pv : Nat → Hp → Prop) (h0 : Pv 0 (upd H1 D (.lst []))) (hl : ∀ i H, i ≤ xs.length → Pv i H → SqT K H a xs)
    (hs : ∀ i x T H, xs[i]? = some x → Pv i H → H T = none → g (.ref T) (wipe σ vs) (upd H T (.tup [.int (i : Nat), x])) fun σ2 H2 => wipe σ2 vs = wipe σ vs ∧ tt σ2 H2 fun b H3 =>
      if b = true then te σ2 H3 fun y H4 => ∃ acc, H4 D = some (.lst acc) ∧ acc.length < sizeLine ∧ Pv (i + 1) (upd H4 D (.lst (acc ++ [y]))) else Pv (i + 1) H3) (hd : ∀ H, Pv xs.length H → Qd H) :
    ∃ W : Nat → Nat → Hp → Prop, (∃ m, W 0 m (upd H1 D (.lst []))) ∧ ∀ i m H, W i m H →
      ((IteT K a).stop i H ∧ Qd H) ∨ ((IteT K a).go i H ∧ ∃ Nx : Hp → Prop, (∀ H', Nx H' → ∃ m', m' < m ∧ W (i + 1) m' H') ∧ ∀ x H', (IteT K a).yld i H x H' → g x (wipe σ vs) H' fun σ2 H2 => wipe σ2 vs = wipe σ vs ∧ tt σ2 H2 fun b H3 =>
        if b = true then te σ2 H3 fun y H4 => ∃ acc, H4 D = some (.lst acc) ∧ acc.length < sizeLine ∧ Nx (upd H4 D (.lst (acc ++ [y]))) else Nx H3) := by
  refine ⟨fun i m H => m = xs.length - i ∧ i ≤ xs.length ∧ Pv i H, ⟨_, rfl, Nat.zero_le _, h0⟩, ?_⟩
  rintro i m H ⟨rfl, hi, p⟩
  have sq := hl i H hi p
  by_cases c : i < xs.length
  · refine .inr ⟨⟨xs, xs[i], sq, by simp [c]⟩, Pv (i + 1), fun H' p' => ⟨xs.length - (i + 1), by omega, rfl, c, p'⟩, fun x H' y => ?_⟩
    obtain ⟨T, z, rfl, hT, rfl, hx⟩ := y
    exact hs i z T H (hx xs sq) p hT
  · have e : i = xs.length := by omega
    subst e
    exact .inl ⟨⟨xs, sq, Nat.le_refl _⟩, hd H p⟩
end BF

/-! ### bricks and cells, in plain words -/
namespace BF
open PySem L2
structure Brick where
  x : Int
  y : Int
  l : Bool
def Brick.vs (b : Brick) : List V := [.int b.x, .int b.y, .bl b.l]
/-- along, up -/
def Brick.lo (f s : Int) (b : Brick) : Int := if b.l then f else s
def Brick.hi (f s : Int) (b : Brick) : Int := if b.l then s else f
def beyB (L W f s : Int) (b : Brick) : Bool := decide (b.x < 0) || (decide (b.y < 0) || (decide (L < b.x + b.lo f s) || decide (W < b.y + b.hi f s)))
def covB (f s : Int) (c : Int × Int) (b : Brick) : Bool := (decide (b.x ≤ c.1) && decide (c.1 < b.x + b.lo f s)) && (decide (b.y ≤ c.2) && decide (c.2 < b.y + b.hi f s))
def oftN (f s : Int) (bs : List Brick) (c : Int × Int) : Nat := (bs.filter (covB f s c)).length
def cellB (L W : Int) (c : Int × Int) : Bool := (decide (0 ≤ c.1) && decide (c.1 < L)) && (decide (0 ≤ c.2) && decide (c.2 < W))
/-- a column of cells, columns of cells -/
def colL (x y : Int) (n : Nat) : List (Int × Int) := (List.range n).map fun j : Nat => (x, y + (j : Int))
def colsL (x y : Int) (m n : Nat) : List (Int × Int) := (List.range m).flatMap fun i : Nat => colL (x + (i : Int)) y n
def cellsL (f s : Int) (b : Brick) : List (Int × Int) := colsL b.x b.y (b.lo f s).toNat (b.hi f s).toNat
theorem col_succ (x y : Int) (n : Nat) : colL x y (n + 1) = colL x y n ++ [(x, y + (n : Int))] := by
  unfold colL
  rw [List.range_succ, List.map_append]
  rfl
theorem col_len (x y : Int) (n : Nat) : (colL x y n).length = n := by
  unfold colL
  rw [List.length_map, List.length_range]
theorem cols_succ (x y : Int) (m n : Nat) : colsL x y (m + 1) n = colsL x y m n ++ colL (x + (m : Int)) y n := by
  unfold colsL
  rw [List.range_succ, List.flatMap_append]
  simp
theorem cols_len (x y : Int) (n : Nat) : ∀ m, (colsL x y m n).length = m * n
  | 0 => by simp [colsL]
  | m + 1 => by
    rw [cols_succ, List.length_append, cols_len x y n m, col_len, Nat.succ_mul]
theorem col_count (x y : Int) (c : Int × Int) : ∀ n : Nat, (colL x y n).count c = if c.1 = x ∧ y ≤ c.2 ∧ c.2 < y + (n : Int) then 1 else 0
  | 0 => by
    rw [if_neg (by omega)]
    rfl
  | n + 1 => by
    rw [col_succ, List.count_append, col_count x y c n]
    obtain ⟨a, b⟩ := c
    by_cases h : (a, b) = (x, y + (n : Int))
    · have h1 : a = x := congrArg Prod.fst h
      have h2 : b = y + (n : Int) := congrArg Prod.snd h
      rw [h, List.count_singleton_self]
      show (if x = x ∧ y ≤ y + (n : Int) ∧ y + (n : Int) < y + (n : Int) then 1 else 0) + 1 = if x = x ∧ y ≤ y + (n : Int) ∧ y + (n : Int) < y + ((n + 1 : Nat) : Int) then 1 else 0
      rw [if_neg (show ¬ (x = x ∧ y ≤ y + (n : Int) ∧ y + (n : Int) < y + (n : Int)) by omega), if_pos (show x = x ∧ y ≤ y + (n : Int) ∧ y + (n : Int) < y + ((n + 1 : Nat) : Int) by omega)]
    · have e : [(x, y + (n : Int))].count (a, b) = 0 := List.count_eq_zero_of_not_mem (by
        intro z
        exact h (List.mem_singleton.mp z))
      rw [e]
      have ne : ¬ (a = x ∧ b = y + (n : Int)) := fun z => h (by rw [z.1, z.2])
      simp only
      by_cases g : a = x ∧ y ≤ b ∧ b < y + (n : Int)
      · rw [if_pos g, if_pos (by omega)]
      · rw [if_neg g, if_neg (by omega)]
theorem cols_count (x y : Int) (n : Nat) (c : Int × Int) : ∀ m : Nat, (colsL x y m n).count c = if (x ≤ c.1 ∧ c.1 < x + (m : Int)) ∧ y ≤ c.2 ∧ c.2 < y + (n : Int) then 1 else 0
  | 0 => by
    rw [if_neg (by omega)]
    rfl
  | m + 1 => by
    rw [cols_succ, List.count_append, cols_count x y n c m, col_count]
    by_cases h : c.1 = x + (m : Int)
    · rw [if_neg (by omega)]
      by_cases g : y ≤ c.2 ∧ c.2 < y + (n : Int)
      · rw [if_pos (by omega), if_pos (by omega)]
      · rw [if_neg (by omega), if_neg (by omega)]
    · rw [if_neg (c := c.1 = x + (m : Int) ∧ y ≤ c.2 ∧ c.2 < y + (n : Int)) (by omega)]
      by_cases g : (x ≤ c.1 ∧ c.1 < x + (m : Int)) ∧ y ≤ c.2 ∧ c.2 < y + (n : Int)
      · rw [if_pos g, if_pos (by omega)]
      · rw [if_neg g, if_neg (by omega)]
theorem cells_count {f s : Int} (hf : 0 < f) (hs : 0 < s) (b : Brick) (c : Int × Int) : (cellsL f s b).count c = if covB f s c b then 1 else 0 := by
  unfold cellsL
  rw [cols_count]
  have h1 : 0 < b.lo f s := by unfold Brick.lo; split <;> omega
  have h2 : 0 < b.hi f s := by unfold Brick.hi; split <;> omega
  have e1 : ((b.lo f s).toNat : Int) = b.lo f s := Int.toNat_of_nonneg (by omega)
  have e2 : ((b.hi f s).toNat : Int) = b.hi f s := Int.toNat_of_nonneg (by omega)
  rw [e1, e2]
  unfold covB
  by_cases g : (b.x ≤ c.1 ∧ c.1 < b.x + b.lo f s) ∧ b.y ≤ c.2 ∧ c.2 < b.y + b.hi f s
  · rw [if_pos g, decide_eq_true g.1.1, decide_eq_true g.1.2, decide_eq_true g.2.1, decide_eq_true g.2.2]
    rfl
  · rw [if_neg g]
    have e : ((decide (b.x ≤ c.1) && decide (c.1 < b.x + b.lo f s)) && (decide (b.y ≤ c.2) && decide (c.2 < b.y + b.hi f s))) = false := by
      apply Bool.eq_false_iff.mpr
      intro z
      simp only [Bool.and_eq_true, decide_eq_true_eq] at z
      exact g ⟨⟨z.1.1, z.1.2⟩, z.2.1, z.2.2⟩
    rw [e]
    rfl
/-- all cells of all bricks -/
def allL (f s : Int) (bs : List Brick) : List (Int × Int) := bs.flatMap (cellsL f s)
theorem all_count {f s : Int} (hf : 0 < f) (hs : 0 < s) (c : Int × Int) : ∀ bs : List Brick, (allL f s bs).count c = oftN f s bs c
  | [] => rfl
  | b :: bs => by
    have ih := all_count hf hs c bs
    unfold allL at ih ⊢
    rw [List.flatMap_cons, List.count_append, ih, cells_count hf hs]
    unfold oftN
    rw [List.filter_cons]
    split <;> simp <;> omega
/-- the floor's cells -/
def gridL (L W : Int) : List (Int × Int) := colsL 0 0 L.toNat W.toNat
theorem grid_count {L W : Int} (hL : 0 ≤ L) (hW : 0 ≤ W) (c : Int × Int) : (gridL L W).count c = if cellB L W c then 1 else 0 := by
  unfold gridL
  rw [cols_count, Int.toNat_of_nonneg hL, Int.toNat_of_nonneg hW]
  unfold cellB
  by_cases g : (0 ≤ c.1 ∧ c.1 < 0 + L) ∧ 0 ≤ c.2 ∧ c.2 < 0 + W
  · rw [if_pos g, decide_eq_true g.1.1, decide_eq_true (show c.1 < L by omega), decide_eq_true g.2.1, decide_eq_true (show c.2 < W by omega)]
    rfl
  · rw [if_neg g]
    have e : ((decide (0 ≤ c.1) && decide (c.1 < L)) && (decide (0 ≤ c.2) && decide (c.2 < W))) = false := by
      apply Bool.eq_false_iff.mpr
      intro z
      simp only [Bool.and_eq_true, decide_eq_true_eq] at z
      omega
    rw [e]
    rfl
/-- a sum of counts over a list without doubles -/
theorem sum_counts {all : List (Int × Int)} : ∀ {g : List (Int × Int)}, (∀ c, g.count c ≤ 1) → (∀ c ∈ all, c ∈ g) → (g.map fun c => all.count c).sum = all.length := by
  induction all with
  | nil =>
    intro g k1 k2
    clear k1 k2
    show (g.map fun c => ([] : List (Int × Int)).count c).sum = 0
    induction g with
    | nil => rfl
    | cons a g ih =>
      rw [List.map_cons, List.sum_cons, ih]
      rfl
  | cons x all ih =>
    intro g h1 h2
    have hx : g.count x = 1 := by
      have := h1 x
      have := List.count_pos_iff.mpr (h2 x (by simp))
      omega
    have e : ∀ g : List (Int × Int), (g.map fun c => (x :: all).count c).sum = (g.map fun c => all.count c).sum + g.count x := by
      intro g
      induction g with
      | nil => rfl
      | cons a g ihg =>
        rw [List.map_cons, List.sum_cons, ihg, List.map_cons, List.sum_cons, List.count_cons, List.count_cons]
        by_cases z : a = x
        · subst z; simp; omega
        · have z1 : (x == a) = false := by simpa using fun h => z h.symm
          have z2 : (a == x) = false := by simpa using z
          rw [z1, z2]; simp; omega
    rw [e, ih h1 (fun c hc => h2 c (List.mem_cons_of_mem _ hc)), hx, List.length_cons]
theorem sum_ones {h : Int × Int → Nat} : ∀ {g : List (Int × Int)}, (∀ c ∈ g, h c ≤ 1) → (g.map h).sum = g.length → ∀ c ∈ g, h c = 1
  | [], _, _, c, hc => by cases hc
  | a :: g, h1, e, c, hc => by
    have le : ∀ g : List (Int × Int), (∀ c ∈ g, h c ≤ 1) → (g.map h).sum ≤ g.length := by
      intro g hg
      induction g with
      | nil => exact Nat.le_refl _
      | cons b g ih =>
        rw [List.map_cons, List.sum_cons, List.length_cons]
        have := hg b (by simp)
        have := ih fun c hc => hg c (List.mem_cons_of_mem _ hc)
        omega
    rw [List.map_cons, List.sum_cons, List.length_cons] at e
    have a1 := h1 a (by simp)
    have g1 := le g fun c hc => h1 c (List.mem_cons_of_mem _ hc)
    rcases List.mem_cons.mp hc with rfl | hc
    · omega
    · exact sum_ones (fun c hc => h1 c (List.mem_cons_of_mem _ hc)) (by omega) c hc
theorem all_ones {h : Int × Int → Nat} : ∀ {g : List (Int × Int)}, (∀ c ∈ g, h c = 1) → (g.map h).sum = g.length
  | [], _ => rfl
  | a :: g, e => by
    rw [List.map_cons, List.sum_cons, List.length_cons, e a (by simp), all_ones fun c hc => e c (List.mem_cons_of_mem _ hc)]
    omega
theorem cov_cell {L W f s : Int} {b : Brick} {c : Int × Int} (h : beyB L W f s b = false) (g : covB f s c b = true) : cellB L W c = true := by
  unfold beyB at h
  unfold covB at g
  unfold cellB
  simp only [Bool.or_eq_false_iff, decide_eq_false_iff_not] at h
  simp only [Bool.and_eq_true, decide_eq_true_eq] at g ⊢
  omega
theorem mem_cells {f s : Int} (hf : 0 < f) (hs : 0 < s) {b : Brick} {c : Int × Int} (h : c ∈ cellsL f s b) : covB f s c b = true := by
  have := List.count_pos_iff.mpr h
  rw [cells_count hf hs] at this
  by_cases g : covB f s c b = true
  · exact g
  · rw [if_neg g] at this; omega
theorem mem_grid {L W : Int} (hL : 0 ≤ L) (hW : 0 ≤ W) {c : Int × Int} : c ∈ gridL L W ↔ cellB L W c = true := by
  constructor
  · intro h
    have := List.count_pos_iff.mpr h
    rw [grid_count hL hW] at this
    by_cases g : cellB L W c = true
    · exact g
    · rw [if_neg g] at this; omega
  · intro h
    refine List.count_pos_iff.mp ?_
    rw [grid_count hL hW, if_pos h]
    omega
/-- laid: as the program reckons it, and cell by cell -/
theorem full_iff {L W f s : Int} (hL : 0 < L) (hW : 0 < W) (hf : 0 < f) (hs : 0 < s) {bs : List Brick} (hb : ∀ b ∈ bs, beyB L W f s b = false) :
    ((allL f s bs).Nodup ∧ ((allL f s bs).length : Int) = L * W) ↔ ∀ c, cellB L W c = true → oftN f s bs c = 1 := by
  have sub : ∀ c ∈ allL f s bs, c ∈ gridL L W := by
    intro c hc
    obtain ⟨b, hbm, hcb⟩ := List.mem_flatMap.mp hc
    exact (mem_grid (by omega) (by omega)).mpr (cov_cell (hb b hbm) (mem_cells hf hs hcb))
  have g1 : ∀ c, (gridL L W).count c ≤ 1 := fun c => by
    rw [grid_count (by omega) (by omega)]
    split <;> omega
  have gl : ((gridL L W).length : Int) = L * W := by
    unfold gridL
    rw [cols_len, Int.natCast_mul, Int.toNat_of_nonneg (by omega), Int.toNat_of_nonneg (by omega)]
  have sm := sum_counts g1 sub
  constructor
  · rintro ⟨nd, len⟩ c hc
    have e : ((gridL L W).map fun c => (allL f s bs).count c).sum = (gridL L W).length := by omega
    have := sum_ones (h := fun c => (allL f s bs).count c) (fun c _ => List.nodup_iff_count.mp nd c) e c ((mem_grid (by omega) (by omega)).mpr hc)
    rw [← all_count hf hs]
    exact this
  · intro h
    have e := all_ones (h := fun c => (allL f s bs).count c) (g := gridL L W) fun c hc => by
      show (allL f s bs).count c = 1
      rw [all_count hf hs]
      exact h c ((mem_grid (by omega) (by omega)).mp hc)
    refine ⟨List.nodup_iff_count.mpr fun c => ?_, by omega⟩
    by_cases hc : c ∈ allL f s bs
    · rw [all_count hf hs, h c ((mem_grid (by omega) (by omega)).mp (sub c hc))]
      exact Nat.le_refl _
    · rw [List.count_eq_zero_of_not_mem hc]
      omega
end BF

/-! ### the error classes, raising, what an except suite asks -/
namespace BF
open PySem PySem.Spec PyProof.Rows L2
inductive Er where
  | floor | size | cell | colour | bricks | barred | great
deriving DecidableEq
def Er.nm : Er → Str
  | .floor => "FloorError"
  | .size => "BadSize"
  | .cell => "BadCell"
  | .colour => "BadColour"
  | .bricks => "BadBricks"
  | .barred => "Barred"
  | .great => "TooGreat"
def Er.has : List Er := [.floor, .size, .cell, .colour, .bricks, .barred, .great]
theorem mem_er (e : Er) : e ∈ Er.has := by cases e <;> decide
abbrev er (K : PySem.W.Frag) (x : Er) : Addr := He.ga K x.nm
abbrev veB : List Value := [.type "ValueError", .type "Exception", .type "BaseException", .type "object"]
structure ErF (K : PySem.W.Frag) (e : Er) : Prop where
  x : PySem.W.excIn K (er K e) veB "ValueError.__new__" = true
  kp : PySem.W.keepIn K (.ref (er K e)) = true
  b : PySem.W.subIn K (.ref (er K e)) (.type "BaseException") = some true
  t : PySem.W.typeIn K (.ref (er K e)) = some (.type "type")
  ex : PySem.W.exmOne K (.ref (er K e)) (.ref (er K .floor)) = some true
  C : ExcC K (er K e)
  kit : ∀ y ∈ Er.has, PySem.W.kitOne K (.ref (er K e)) (.ref (er K y)) = some (decide (y = e) || decide (y = .floor))
  kitV : PySem.W.kitOne K (.ref (er K e)) (.type "ValueError") = some true
structure ErG (K : PySem.W.Frag) (mg : Str → Option Value) : Prop where
  g : ∀ x : Er, mg x.nm = some (.ref (er K x))
  f : ∀ x : Er, ErF K x
def erB (K : PySem.W.Frag) (e : Er) : Bool := (He.Fa.glo e.nm).ok K && (PySem.W.excIn K (er K e) veB "ValueError.__new__" && (PySem.W.keepIn K (.ref (er K e)) && (decide (PySem.W.subIn K (.ref (er K e)) (.type "BaseException") = some true) &&
  (decide (PySem.W.typeIn K (.ref (er K e)) = some (.type "type")) && (decide (PySem.W.exmOne K (.ref (er K e)) (.ref (er K .floor)) = some true) &&
  (decide (PySem.W.findIn K (.ref (er K e)) "__getattribute__" = some (some (.builtin "BaseException.__getattribute__"))) && (decide (PySem.W.findIn K (.ref (er K e)) "__getattr__" = some none) && (PySem.W.hasDictIn K (er K e) &&
  (decide (PySem.W.findIn K (.ref (er K e)) "__class__" = some (some (.builtin "object.__class__"))) && (decide (PySem.W.specialIn K (.builtin "object.__class__") "__get__" = some (some (.builtin "getset_descriptor.__get__"))) &&
  (decide (PySem.W.takesIn K (.builtin "object.__class__") = some true) && (decide (PySem.W.mroIn K (er K e) (.type "object") = some true) &&
  ((Er.has.all fun y => decide (PySem.W.kitOne K (.ref (er K e)) (.ref (er K y)) = some (decide (y = e) || decide (y = .floor)))) && decide (PySem.W.kitOne K (.ref (er K e)) (.type "ValueError") = some true))))))))))))))
def ersB (K : PySem.W.Frag) : Bool := Er.has.all (erB K)
theorem ersB_ok {K : PySem.W.Frag} {h : Heap} {mg : Str → Option Value} (X : K.In h) (G : h.Ns mainGlobals mg) (c : ersB K = true) : ErG K mg := by
  have a := List.all_eq_true.mp c
  refine ⟨fun x => ?_, fun x => ?_⟩
  · have b := a x (mem_er x)
    unfold erB at b
    exact He.glo_ok X G (He.ba b).1
  · have b := a x (mem_er x)
    unfold erB at b
    obtain ⟨_, b⟩ := He.ba b
    obtain ⟨b1, b⟩ := He.ba b
    obtain ⟨b2, b⟩ := He.ba b
    obtain ⟨b3, b⟩ := He.ba b
    obtain ⟨b4, b⟩ := He.ba b
    obtain ⟨b5, b⟩ := He.ba b
    obtain ⟨b6, b⟩ := He.ba b
    obtain ⟨b7, b⟩ := He.ba b
    obtain ⟨b8, b⟩ := He.ba b
    obtain ⟨b9, b⟩ := He.ba b
    obtain ⟨b10, b⟩ := He.ba b
    obtain ⟨b11, b⟩ := He.ba b
    obtain ⟨b12, b⟩ := He.ba b
    obtain ⟨b13, b14⟩ := He.ba b
    have s := of_decide_eq_true b3
    exact ⟨b1, b2, s, of_decide_eq_true b4, of_decide_eq_true b5, ⟨of_decide_eq_true b6, of_decide_eq_true b7, s, b8, of_decide_eq_true b9, of_decide_eq_true b10, of_decide_eq_true b11, of_decide_eq_true b12⟩, fun y hy => of_decide_eq_true (List.all_eq_true.mp b13 y hy), of_decide_eq_true b14⟩
abbrev CXN (P : Program) (w : World) : CXT := L2N.CX P w
section
variable {X : Cx} {e : Er} {x m : Str} {j : Nat} {p p2 pos : Pos}
/-- Error("..") -/
theorem pmk_err (G : ErG X.K X.mg) (hx : x = e.nm) (hg : Gl X x := by rfl) (hdb : (x == ("__debug__" : Str)) = false := by decide) : L2N.PMk X (.Call (.Name x p) [.Constant (.str m) j p2] [] pos) (fun _ H Q => Q (.ref (er X.K e)) none H) :=
  L2N.pmk_own PySem.F.excBase_ValueError (G.f e).x (by rw [hx]; exact G.g e) (G.f e).kp (raises_own (G.f e).b (G.f e).t) hg hdb
end
section
variable {X : Cx} {k : Nat} {ps : List Str} {sp : Sp} {E : L2.St → XK} {x : Str} {p pos : Pos} {e : Expr} {es : List Expr} {t : TA} {C : CXT}
/-- a call whose errors are caught here -/
theorem pe_fnS (h : Has X.prog X.w X.K X.mg X.base C k x ps sp) (hr : Room k X.A) (hx : ∀ σ, PassesAt C X σ (E σ)) (ha : PA X (e :: es) t) (hg : Gl X x := by rfl) (hdb : (x == ("__debug__" : Str)) = false := by decide)
    (he : starEach (e :: es) X.env = (false, eval e X.env) :: starEach es X.env := by rfl) (hpl : (backTo pos (starEach es X.env)).any (·.1) = false := by rfl) : PE X (.Call (.Name x p) (e :: es) [] pos) (tCallS sp E t) := by
  obtain ⟨f, fd, F, hm, hk, hb, _⟩ := h
  exact pe_callS F hr hg hm hk hb hx ha hdb he hpl
theorem pss_any {ι : Type} {ss : List Stmt} {Ok : ι → Prop} {t : ι → TS} (h : ∀ i, Ok i → PSs X ss (t i)) : PSs X ss (fun D σ H => ∃ i, Ok i ∧ t i D σ H) := ⟨fun pins s σ H D I ⟨i, hi, q⟩ => (h i hi).run pins s σ H D I q⟩
end
theorem takes0N {X : Cx} : L2N.Takes X (fun _ _ _ _ => False) := fun _ _ x => by
  obtain ⟨_, _, _, _, _, _, _, _, _, _, _, _, _, _, _, _, z⟩ := x
  exact z.elim
/-- try: body, except C as n: suite -/
def tTryN (K : PySem.W.Frag) (c : Value) (i : Nat) (ts : Addr → Value → Option Addr → TS) (Wout : WX) (tb : WX → TS) : TS := fun D σ H => tb (wAs K c i ts Wout D) D σ H
theorem ps_tryN {X : Cx} {x n : Str} {c : Value} {i : Nat} {body suite : List Stmt} {b₀ : Stmt} {np pos pos' : Pos} {tb : WX → TS} {ts : Addr → Value → Option Addr → TS} {Wout : WX} (hs : X.stack = X.env :: X.outer) (hf : X.env.frame = some X.env.locals) (hN : X.N.Nodup) (hi : X.N[i]? = some n) (hln : X.env.kindOf n = some .local) (hc : Names X x c) (tk : L2N.Takes X Wout)
    (hb : ∀ (W : WX) (pn : List (Addr × Obj)) (xe : Value → Shared → Prop), L2N.Takes (X.tr pn xe) W → PassesOwn (model X.prog X.w) X.A X.env xe → PSs (X.tr pn xe) body (tb W))
    (hsu : ∀ (a : Addr) (oe : Obj) (cls : Value) (d : Option Addr) (pn : List (Addr × Obj)), L2N.Zn cls d oe → (∃ vs, oe.data = .fields vs) → PSs (X.suite a ((a, oe) :: pn)) (b₀ :: suite) (ts a cls d)) :
    PS X (.Try body [.ExceptHandler (some (.Name x np)) (some n) (b₀ :: suite) pos'] [] [] pos) (tTryN X.K c i ts Wout tb) := L2N.ps_try_as hs hf hN hi hln hc tk hb hsu
/-- the error of a suite is of the class e -/
def IsEr (K : PySem.W.Frag) (cls : Value) (d : Option Addr) (e : Er) : Prop := cls = .ref (er K e) ∧ d = none
section
variable {X : Cx} {a : Addr} {oe : Obj} {cls : Value} {d : Option Addr} {pn : List (Addr × Obj)} {e : Er}
/-- isinstance(error, Class) -/
def rIsX (K : PySem.W.Frag) (e : Er) (a : Addr) : List V → Hp → VK → Prop := fun xs H Q => ∃ y : Er, xs = [.ref a, .ref (er K y)] ∧ Q (.bl (decide (y = e) || decide (y = .floor))) H
theorem call_isX {mg : Str → Option Value} (G : ErG X.K mg) (hi : IsEr X.K cls d e) (hz : L2N.Zn cls d oe) (hf : ∃ vs, oe.data = .fields vs) : CallR (X.suite a ((a, oe) :: pn)) (.builtin "isinstance") (rIsX X.K e a) := by
  obtain ⟨rfl, rfl⟩ := hi
  intro pins s σ H xs us Q I r h
  obtain ⟨y, rfl, q⟩ := h
  exact call_isE (G.f e).C hz.zc hf pins s σ H _ us Q I r ⟨.ref (er X.K y), .ref (er X.K y), _, rfl, fun u hu => hu, (G.f e).kit y (mem_er y), q⟩
/-- isinstance(error, ValueError) -/
def rIsV (a : Addr) : List V → Hp → VK → Prop := fun xs H Q => xs = [.ref a, .ty "ValueError"] ∧ Q (.bl true) H
theorem call_isV {mg : Str → Option Value} (G : ErG X.K mg) (hi : IsEr X.K cls d e) (hz : L2N.Zn cls d oe) (hf : ∃ vs, oe.data = .fields vs) : CallR (X.suite a ((a, oe) :: pn)) (.builtin "isinstance") (rIsV a) := by
  obtain ⟨rfl, rfl⟩ := hi
  intro pins s σ H xs us Q I r h
  obtain ⟨rfl, q⟩ := h
  exact call_isE (G.f e).C hz.zc hf pins s σ H _ us Q I r ⟨.ty "ValueError", .type "ValueError", _, rfl, fun u hu => hu, (G.f e).kitV, q⟩
/-- isinstance(error, (Class, Class)) -/
def rIsX2 (K : PySem.W.Frag) (e : Er) (a : Addr) : List V → Hp → VK → Prop := fun xs H Q => ∃ (y z : Er) (t : Addr), xs = [.ref a, .ref t] ∧ H t = some (.tup [.ref (er K y), .ref (er K z)]) ∧ Q (.bl ((decide (y = e) || decide (y = .floor)) || (decide (z = e) || decide (z = .floor)))) H
theorem call_isX2 {mg : Str → Option Value} (G : ErG X.K mg) (hi : IsEr X.K cls d e) (hz : L2N.Zn cls d oe) (hf : ∃ vs, oe.data = .fields vs) : CallR (X.suite a ((a, oe) :: pn)) (.builtin "isinstance") (rIsX2 X.K e a) := by
  obtain ⟨rfl, rfl⟩ := hi
  intro pins s σ H xs us Q I r h
  obtain ⟨y, z, t, rfl, ht, q⟩ := h
  have C := (G.f e).C
  cases r with
  | cons rx rr =>
    cases rr with
    | cons rt rr =>
      cases rr
      cases rx
      cases rt
      obtain ⟨hget, _⟩ := I.pin (a, oe) (List.mem_append.mpr (.inl List.mem_cons_self))
      obtain ⟨vs, hv⟩ := hf
      have J : PySem.W.InstAt s.heap a oe (er X.K e) none := by
        obtain ⟨oc, od, oda, osl⟩ := oe
        obtain ⟨h1, h2, _⟩ := hz
        dsimp only at h1 h2 hv
        subst h1 h2 hv
        exact ⟨hget, rfl, rfl, trivial⟩
      obtain ⟨_, its, rv, o, ho, hc, n, hd⟩ := I.hok _ _ ht
      have ei : its = [Value.ref (er X.K y), Value.ref (er X.K z)] := by
        cases rv with
        | cons r1 r2 =>
          cases r2 with
          | cons r3 r4 =>
            cases r4
            cases r1
            cases r3
            rfl
      subst ei
      have k1 := (G.f e).kit y (mem_er y)
      have k2 := (G.f e).kit z (mem_er z)
      have ho' : s.heap.get? t = some ⟨.type "tuple", o.dict, .seq [Value.ref (er X.K y), Value.ref (er X.K z)].toArray n, o.slots⟩ := by
        rw [ho]
        obtain ⟨oc, od, oda, osl⟩ := o
        dsimp only at hc hd
        subst hc hd
        rfl
      refine PySem.W.kia_tup (b := ((decide (y = e) || decide (y = .floor)) || (decide (z = e) || decide (z = .floor)))) (PySem.W.handS_kitx_exc C.hg C.hk C.hs C.hd C.ha C.hn C.ht C.hm) I.kIn J ho' ?_ (fun z => nomatch z) fun tk => ⟨.bl _, H, I.kept (t' := tk) fun _ _ z => z, rfl, q⟩
      unfold PySem.W.kitAny
      rw [k1]
      cases (decide (y = e) || decide (y = Er.floor)) with
      | true => rfl
      | false =>
        unfold PySem.W.kitAny
        rw [k2]
        cases (decide (z = e) || decide (z = Er.floor)) with
        | true => rfl
        | false => rfl
end
section
variable {prog : Program} {w : World} {A : Around} {E : Value → Shared → Prop} {s : Shared}
theorem list_end_hot {it l x1 : Addr} {i : Nat} {items : Array Value} {Q : Option Value → Shared → Prop} (hot : HotX.HotAt A x1 s.heap) (hne : x1 ≠ it) (hit : s.heap.IsListIter it l i) (hl : s.heap.IsList l items) (hx : items[i]? = none)
    (hQ : ∀ h', Heap.ExtBut it s.heap h' → Q none { s with heap := h' }) : wpAny (model prog w) A (pyNext (.ref it)) Q E s := by
  obtain ⟨o, ho, hc, hd⟩ := id hit
  obtain ⟨ol, hol, _, nl, hdl⟩ := hl
  obtain ⟨hh, o1, vs1, h1, d1, c1⟩ := hot
  unfold pyNext
  refine wpAny_bind (wpAny_attempt (wpAny_callSpecial?_slot (name := Str.ofString "__next__") hit.typeIs slot_listiter_next
    (wpAny_call_entry slot_listiter_next hit.typeIs entry_listiter_next ?_ (args_listiter_next _))))
  show wpAny _ _ (field (.ref it) 0 >>= _) _ _ s
  refine wpAny_bind (wpAny_field ho hd (x := .ref l) rfl ?_)
  show wpAny _ _ (if (Value.ref l == Value.none) = true then _ else _) _ _ s
  rw [if_neg (show ¬ ((Value.ref l == Value.none) = true) from Bool.false_ne_true)]
  show wpAny _ _ (field (.ref it) 1 >>= _) _ _ s
  refine wpAny_bind (wpAny_field ho hd (x := .int i 0) rfl ?_)
  show wpAny _ _ (seqItems? (.ref l) >>= _) _ _ s
  refine wpAny_bind (wpAny_seqItems hol hdl ?_)
  simp only [Int.toNat_natCast, hx]
  refine wpAny_bind (wpAny_rule (wpAny_bind (wpAny_setField ho hd (by simp) ?_)))
  show wpAny _ _ (newExc (.type "StopIteration") [] >>= _) _ _ _
  refine wpAny_bind ?_
  simp only [newExc, newTuple]
  refine wpAny_bind (wpAny_newObj_type ?_ (by size_fits))
  refine wpAny_bind (m := firstArgMember _ _) (wpAny_of_eq (a := Value.none) (by first | rfl | (simp only [firstArgMember]; rfl)) ?_)
  refine wpAny_newObj_type ?_ (by size_fits)
  have e1 : (s.heap.update it (Obj.mapFields fun x => x.setIfInBounds 0 Value.none)).get? x1 = some o1 := by
    rw [Heap.get?_update_other _ _ hne.symm]
    exact h1
  refine HotX.raiseNew_hot ⟨hh, o1, vs1, Heap.get?_push_of_some _ (Heap.get?_push_of_some _ e1), d1, c1⟩ (Nat.ne_of_lt (Heap.lt_size (Heap.get?_push_of_some _ e1))) (Heap.get?_push_size _ rfl) rfl (by first | (simp; done) | (simp; omega) | (simp only [Array.size_append]; simp; omega)) ?_
  refine wpAny_bind (wpAny_isInstance (T := "StopIteration") (b := true) ⟨_, Heap.get?_update_self _ (Heap.get?_push_size _ rfl) rfl, rfl⟩ isSubtype_stop ?_)
  refine wpAny_pure (hQ _ fun b o hb e => ?_)
  have e2 : (s.heap.update it (Obj.mapFields fun x => x.setIfInBounds 0 Value.none)).get? b = some o := by
    rw [Heap.get?_update_other _ _ (Ne.symm hb)]
    exact e
  rw [Heap.get?_update_other _ _ (Nat.ne_of_gt (Heap.lt_size (Heap.get?_push_of_some _ e2)))]
  exact Heap.get?_push_of_some _ (Heap.get?_push_of_some _ e2)
theorem walks_hot {x1 : Addr} {o1 : Obj} {vs1 : Array Value} (hh : A.handled = some (.ref x1)) (d1 : o1.data = .fields vs1) (c1 : vs1[2]? = some .none) (I ax : Addr) (hne : ax ≠ I) (hx : x1 ≠ I) (items : Array Value) :
    Walks prog w A I [I, ax, x1] [I] items.size (fun i v => items[i]? = some v) (fun i h => (h.IsListIter I ax i ∧ h.IsList ax items) ∧ h.get? x1 = some o1) where
  sub := fun b hb => by simp at hb; simp [hb]
  frame := fun _ _ _ st hk => ⟨⟨st.1.1.at fun o e => hk I (by simp) o e, st.1.2.at fun o e => hk ax (by simp) o e⟩, hk x1 (by simp) _ st.2⟩
  item := fun i s Q E hi st hQ => by
    refine wpAny_pyNext_list_item st.1.1 st.1.2 (x := items[i]) (by simp [hi]) fun h' hit' hs' => ?_
    exact hQ _ h' s.toks (by simp [hi]) ⟨⟨hit', st.1.2.extBut hs'.extBut hne⟩, hs'.extBut _ _ hx st.2⟩ fun b o hb e => hs'.extBut b o (fun h => hb (by simp [h])) e
  done := fun s Q E st hQ => list_end_hot ⟨hh, o1, vs1, st.2, d1, c1⟩ hx st.1.1 st.1.2 (by simp) fun h' he' => hQ h' s.toks fun b o hb e => he' b o (fun h => hb (by simp [h])) e
  self := fun _ _ _ _ st hQ => wpAny_pyIter_listiter st.1.1 hQ
end
section
variable {X : Cx} {a : Addr} {oe : Obj} {cls : Value} {d : Option Addr} {pn : List (Addr × Obj)}
/-- any(list) in an except suite -/
theorem cr_anyH (hz : L2N.Zn cls d oe) (hf : ∃ vs, oe.data = .fields vs) : CallR (X.suite a ((a, oe) :: pn)) (.builtin "any") (rAny X.K) := by
  intro pins s σ H vs us Q I r h
  obtain ⟨l, bs, rfl, hs, q⟩ := h
  obtain ⟨its, rv, hl, _⟩ := I.list hs
  rw [Vals.ref1 r]
  have hb := rv.bls
  obtain ⟨hget, _⟩ := I.pin (a, oe) (List.mem_append.mpr (.inl List.mem_cons_self))
  obtain ⟨vs1, hv⟩ := hf
  refine call_any_walk (iter_any hl.isList fun s₂ e2 st hne => ?_)
  subst e2
  have hlt : a < s.heap.objs.size := Heap.lt_size hget
  refine ⟨_, _, _, _, _, _, _, rfl, walks_hot (A := (X.suite a ((a, oe) :: pn)).A.in1) (x1 := a) (o1 := oe) (vs1 := vs1) rfl hv (hz.2.2 vs1 hv) _ l hne (Nat.ne_of_lt hlt) its.toArray, ⟨st, Heap.get?_push_of_some _ hget⟩, truth_bools hb, fun h' tk hk => ?_⟩
  refine ⟨.bl _, H, I.kept fun b o eo => hk b o (fun hmem => ?_) (Heap.get?_push_of_some _ eo), ?_, q⟩
  · rcases List.mem_cons.mp hmem with e1 | hmem
    · exact absurd (e1 ▸ Heap.lt_size eo) (Nat.lt_irrefl _)
    · cases hmem
  · show Value.bool _ = Value.bool _
    rw [← L2.any_range, hb, List.size_toArray, List.length_map]
end
end BF

/-! ### a list comprehension over a range, in an except suite (what a turn does is as out of one; the end of the range is the one that HotCalls tells) -/
namespace BF
open PySem PySem.Spec PyProof.Rows L2
section
variable {X : Cx} {pins : List (Addr × Obj)} {σ : L2.St} {H : Hp} {s : Shared}
theorem inv_pin {p : Addr × Obj} (I : Inv X pins σ H s) (hg : s.heap.get? p.1 = some p.2) (hn : H p.1 = none) (hl : p.1 ≠ X.env.locals) (hf : p.1 ∉ X.fs) (hd : ∀ v, p.2.data ≠ .cell v) : Inv X (p :: pins) σ H s :=
  ⟨I.ok, I.os, I.bare, I.base, I.loc, I.cell, I.free, I.freeC, fun q hq => by
    rcases List.mem_append.mp hq with z | z
    · exact I.pin q (List.mem_append_left _ z)
    · rcases List.mem_cons.mp z with e | z
      · rw [e]
        exact ⟨hg, hn, hl, hf, hd⟩
      · exact I.pin q (List.mem_append_right _ z), I.hok, I.len⟩
theorem inv_unpin {p : Addr × Obj} (I : Inv X (p :: pins) σ H s) : Inv X pins σ H s :=
  ⟨I.ok, I.os, I.bare, I.base, I.loc, I.cell, I.free, I.freeC, fun q hq => I.pin q (by
    rcases List.mem_append.mp hq with z | z
    · exact List.mem_append_left _ z
    · exact List.mem_append_right _ (List.mem_cons_of_mem _ z)), I.hok, I.len⟩
theorem pe_lcH {elt tg iter : Expr} {ifs : List Expr} {scope : Scope} {own : List (Str × Nat)} {pos : Pos} {wi : TI} {g : TG} {tt : TT} {te : TE} (hot : L2H.HotC X) (hN : X.N.Nodup) (hi : L2H.PIH X tg iter wi) (ok : BlkOk X.N X.env.scope scope own)
    (hg : ∀ (s : Shared) (H : Hp) (C : Addr) (cl : List (Str × Addr)) (fp : List Addr), PG (X.blk s H scope (compEnvC scope cl C X.env) fp) tg g) (ht : ∀ (s : Shared) (H : Hp) (C : Addr) (cl : List (Str × Addr)) (fp : List Addr), PTs (X.blk s H scope (compEnvC scope cl C X.env) fp) ifs tt)
    (he : ∀ (s : Shared) (H : Hp) (C : Addr) (cl : List (Str × Addr)) (fp : List Addr), PE (X.blk s H scope (compEnvC scope cl C X.env) fp) elt te) (hs : ∀ x, foldedSetIterable iter X.env x = pure x := by intro _; rfl) :
    PE X (.ListComp elt [⟨tg, iter, ifs, 0⟩] scope pos) (tLc wi g tt te (own.map (·.2))) := by
  refine ⟨fun pins s σ H Q I h => ?_⟩
  rw [eval_ListComp]
  obtain ⟨p, hp1, hpn⟩ := hot
  obtain ⟨hh, vs1, hd1, hc1⟩ := hp1
  have hfree : ∀ y ∈ scope.names, y.2 = .free → ∃ c, X.env.cells.lookup y.1 = some c := fun y hy e => by
    rcases ok.free y hy e with k | k
    · exact I.ok.has _ (.inl k)
    · exact I.ok.has _ (.inr k)
  refine wpAny_comprehension_free (use := none) rfl hs (closure_ok hfree) ok.kind (fun y hy e => by rw [ok.uniq y hy, e])
    (thn (hi.run pins s σ H _ I h) fun xv s1 hx => thn hx fun itv s2 h2 => ?_)
  obtain ⟨it, fp, tn, J, H2, e, I2, T, st2, f2, q⟩ := h2
  subst e
  refine wpAny_newObj_type (newEnv_comp ?_) (by show 0 ≤ sizeLine; decide)
  generalize hD : s2.heap.objs.size = D
  have hDn : H2 D = none := I2.hok.fresh (Nat.le_of_eq hD)
  obtain ⟨W, ⟨m0, w0⟩, turn⟩ := q D hDn
  generalize hs3 : ({ s2 with heap := s2.heap.push { cls := .type "list", data := .seq ([] : List Value).toArray } } : Shared) = s3
  have I3 : Inv X pins σ (upd H2 D (.lst [])) s3 := by
    rw [← hs3]
    refine I2.laid (t' := s2.toks) (fun b o e => Heap.get?_push_of_some _ e) (Nat.le_of_eq hD) ⟨Nat.zero_le _, [], 0, .nil, ?_⟩
    rw [← hD]
    exact Heap.get?_push_size _ rfl
  have h3 : s3.heap = s2.heap.push { cls := .type "list", data := .seq ([] : List Value).toArray } := by rw [← hs3]
  have f3 : ∀ b ∈ fp, FpOk X pins (upd H2 D (.lst [])) b ∧ b < s3.heap.objs.size := fun b hb => by
    obtain ⟨o, e, _⟩ := T.obj _ _ st2 b hb
    have hlt := Heap.lt_size e
    refine ⟨⟨?_, (f2 b hb).2⟩, by rw [h3, Heap.size_push]; exact Nat.lt_succ_of_lt hlt⟩
    rw [upd_ne (by rw [← hD]; exact Nat.ne_of_lt hlt)]
    exact (f2 b hb).1
  have st3 : tn 0 s3.heap := T.keep _ _ _ st2 fun b _ o e => by rw [h3]; exact Heap.get?_push_of_some _ e
  have I4 := block_start I3 ok hN f3
  obtain ⟨g1, g2, g3, g4, g5⟩ := I3.pin p (List.mem_append_left _ hpn)
  have npf : ∀ b ∈ fp, p.1 ≠ b := fun b hb => (f2 b hb).2.2.2.2.2 p (List.mem_append_left _ hpn)
  have nstk : p.1 ∉ frs X.stack := fun z => (List.mem_cons.mp (I3.stkSub _ z)).elim g3 g4
  have pg := hg s3 (upd H2 D (.lst [])) s3.heap.objs.size (cellsFrom (s3.heap.objs.size + 1) scope.names (cloFrom X.env.cells scope.names [])) fp
  have pt := ht s3 (upd H2 D (.lst [])) s3.heap.objs.size (cellsFrom (s3.heap.objs.size + 1) scope.names (cloFrom X.env.cells scope.names [])) fp
  have pe := he s3 (upd H2 D (.lst [])) s3.heap.objs.size (cellsFrom (s3.heap.objs.size + 1) scope.names (cloFrom X.env.cells scope.names [])) fp
  show codeAny _ _ (.compStart (.ListComp elt [⟨tg, iter, ifs, 0⟩] scope pos) 0 (.ref it) (.ref D) (compEnvC scope (cellsFrom (s3.heap.objs.size + 1) scope.names (cloFrom X.env.cells scope.names [])) s3.heap.objs.size X.env)) (compPost (model X.prog X.w) X.A X.xe none (EP X pins σ Q) (.ref D) s3.heap.objs.size) { s3 with heap := pushCells (s3.heap.push { cls := .type "dict", data := .dict #[] }) scope.names }
  have nfp : ∀ b ∈ fp, (upd H2 D (.lst [])) b = none := fun b hb => (f3 b hb).1.1
  generalize hce : compEnvC scope (cellsFrom (s3.heap.objs.size + 1) scope.names (cloFrom X.env.cells scope.names [])) s3.heap.objs.size X.env = ce at I4 pg pt pe ⊢
  have cL : ce.locals = s3.heap.objs.size := by subst hce; rfl
  generalize hH3 : upd H2 D (.lst []) = H3 at I3 I4 pg pt pe w0 nfp f3 g2
  generalize hs4 : ({ s3 with heap := pushCells (s3.heap.push { cls := .type "dict", data := .dict #[] }) scope.names } : Shared) = s4 at I4 ⊢
  have k4 : ∀ b o, s3.heap.get? b = some o → s4.heap.get? b = some o := fun b o e => by rw [← hs4]; exact pushCells_keeps _ _ _ _ (Heap.get?_push_of_some _ e)
  have st4 : tn 0 s4.heap := T.keep _ _ _ st3 fun b _ o e => k4 b o e
  have I4p : Inv (X.blk s3 H3 scope ce fp) [p] (wipe σ (own.map (·.2))) H3 s4 := inv_pin I4 (k4 _ _ g1) g2 (show p.1 ≠ ce.locals by rw [cL]; exact Nat.ne_of_lt (Heap.lt_size g1)) nstk g5
  have hotY : L2H.HotC ((X.blk s3 H3 scope ce fp).tr ([] ++ [p]) fun _ _ => False) := ⟨p, ⟨hh, vs1, hd1, hc1⟩, List.mem_singleton.mpr rfl⟩
  have stat : ∀ {σ' : L2.St} {H' : Hp} {s' : Shared}, Inv (X.blk s3 H3 scope ce fp) [p] σ' H' s' → (∀ b ∈ fp, H' b = none) → ∀ b ∈ fp, FpOk (X.blk s3 H3 scope ce fp) [p] H' b := fun {σ' H' s'} I' hn b hb =>
    ⟨hn b hb, (I'.ok.exf b hb).1, I'.ok.exfs b hb, .inl hb, fun x c e => (I'.ok.exf b hb).2 x c e, fun r hr => by
      have z : r = p := by simpa using hr
      rw [z]
      exact npf b hb⟩
  have statY : ∀ {H' : Hp}, (∀ b ∈ fp, FpOk (X.blk s3 H3 scope ce fp) [p] H' b) → ∀ b ∈ fp, FpOk ((X.blk s3 H3 scope ce fp).tr ([] ++ [p]) fun _ _ => False) [] H' b := fun {H'} hf b hb => by
    obtain ⟨z1, z2, z3, z4, z5, z6⟩ := hf b hb
    exact ⟨z1, z2, z3, z4, z5, fun r hr => z6 r (by simpa using hr)⟩
  have loop : codeAny (model X.prog X.w) X.A (.compLoop (.ListComp elt [⟨tg, iter, ifs, 0⟩] scope pos) 0 (.ref it) (.ref D) ce) (compPost (model X.prog X.w) X.A X.xe none (EP X pins σ Q) (.ref D) s3.heap.objs.size) s4 := by
    refine compLoop_any (fun n s' => ∃ i H', Inv (X.blk s3 H3 scope ce fp) [p] (wipe σ (own.map (·.2))) H' s' ∧ tn i s'.heap ∧ (∀ b ∈ fp, H' b = none) ∧ W i n H') ?_ m0 ⟨0, H3, I4p, st4, nfp, w0⟩
    rintro n s5 ⟨i, H5, I5, st5, n5, w5⟩
    have okb := I5.ok
    have I5Y : Inv ((X.blk s3 H3 scope ce fp).tr ([] ++ [p]) fun _ _ => False) [] (wipe σ (own.map (·.2))) H5 s5 := I5.toTry _
    rcases turn i n H5 w5 with ⟨stop, qq⟩ | ⟨go, Nx, hNx, step⟩
    · have td := T.done ((X.blk s3 H3 scope ce fp).tr ([] ++ [p]) fun _ _ => False) rfl rfl rfl hotY i [] s5 _ H5 (fun _ _ => False) I5Y (statY (stat I5 n5)) st5 stop
      refine thnF td fun r s6 ⟨hr, I6y⟩ => ?_
      subst hr
      have I6 : Inv (X.blk s3 H3 scope ce fp) [p] (wipe σ (own.map (·.2))) H5 s6 := I6y.ofTry okb
      have I7 : Inv X pins σ H5 s6 := I3.call' (ch := fp) I6.os I6.base I6.hok I6.bare fun b hb => ⟨(f3 b hb).1.2.2.2.1, (f3 b hb).1.2.1, (f3 b hb).1.2.2.2.2.1, (f3 b hb).1.2.2.2.2.2⟩
      have nC : H5 s3.heap.objs.size = none := by
        have z : H5 ce.locals = none := I6.free
        rw [cL] at z
        exact z
      obtain ⟨m, hn, _⟩ := I6.loc
      have hn : s6.heap.Ns ce.locals m := hn
      rw [cL] at hn
      obtain ⟨f0, f1, _, f3', f4, f5⟩ := I3.fpOk (Nat.le_refl _) nC
      exact ⟨m, hn, fun h'' sb => ⟨.ref D, H5, I7.turned (t' := s6.toks) (fun b o hb e => (sb.2 b hb).trans e) f0 f1 f3' f4 f5, rfl, qq⟩⟩
    · have ti := T.item ((X.blk s3 H3 scope ce fp).tr ([] ++ [p]) fun _ _ => False) rfl rfl rfl hotY i [] s5 _ H5 (fun _ _ => False) I5Y (statY (stat I5 n5)) st5 go
      refine thnF ti fun r s6 ⟨u, hr, h6⟩ => ?_
      subst hr
      refine thnF h6 fun _ s7 ⟨x, H7, I7y, r7, y7, st7, n7⟩ => ?_
      have I7 : Inv (X.blk s3 H3 scope ce fp) [p] (wipe σ (own.map (·.2))) H7 s7 := I7y.ofTry okb
      have I7' := I7.pinned (stat I7 n7) (T.obj _ _ st7)
      refine thnF (pg.run _ s7 _ H7 x u _ I7' r7 (step x H7 y7)) fun _ s8 ⟨σ8, H8, I8, hw8, q8⟩ => ?_
      refine thnF (pt.run _ s8 σ8 H8 _ I8 q8) fun b s9 ⟨H9, I9, q9⟩ => ?_
      have fin : ∀ {s' : Shared} {H' : Hp}, Inv (X.blk s3 H3 scope ce fp) ([p] ++ pinsAt fp s7.heap) σ8 H' s' → Nx H' → ∃ m, m < n ∧ ∃ i H', Inv (X.blk s3 H3 scope ce fp) [p] (wipe σ (own.map (·.2))) H' s' ∧ tn i s'.heap ∧ (∀ b ∈ fp, H' b = none) ∧ W i m H' := fun {s' H'} I' nx => by
        obtain ⟨m', hm, w'⟩ := hNx H' nx
        have pin' : ∀ b ∈ fp, ∀ o, s7.heap.get? b = some o → s'.heap.get? b = some o ∧ H' b = none := fun b hb o e =>
          let z := I'.pin (b, o) (List.mem_append_right _ (List.mem_append_right _ (mem_pinsAt hb e)))
          ⟨z.1, z.2.1⟩
        have hl : (wipe σ (own.map (·.2))).length = σ8.length := by rw [← hw8, wipe_length]
        refine ⟨m', hm, i + 1, H', (I'.unpinned (pins := [p])).weak hl (fun j v e => ?_), T.keep _ _ _ st7 fun b hb o e => (pin' b hb o e).1, fun b hb => ?_, w'⟩
        · rw [← hw8] at e
          exact (wipe_some e).1
        · obtain ⟨o, e, _⟩ := T.obj _ _ st7 b hb
          exact (pin' b hb o e).2
      cases b with
      | false =>
        simp only [Bool.false_eq_true, if_false] at q9 ⊢
        exact fin I9 q9
      | true =>
        simp only [if_true] at q9 ⊢
        refine thnF (pe.run _ s9 σ8 H9 _ I9 q9) fun z s10 ⟨yv, H10, I10, r10, acc, hD10, hz10, nx⟩ => ?_
        exact app_ok (X := X.blk s3 H3 scope ce fp) I10 hD10 hz10 r10 fun s11 I11 => fin I11 nx
  exact codeAny_compStart_list loop (T.self X.A 0 _ _ _ st4 loop)
end
end BF

/-! short words for readings: walk_at "rd" takes all steps that are plain -/
local macro_rules | `(tactic| walk_at "bn") => `(tactic| first | with_reducible assumption | ((with_reducible show BF.Bn _ ((_ : Int) % _)); exact BF.Bn.mod (by walk_at "bn") (by walk_at "ps")) | ((with_reducible show BF.Bn _ ((_ : Int) / _)); exact BF.Bn.div (by walk_at "bn") (by walk_at "ps")) | ((with_reducible show BF.Bn _ ((_ : Int) * _)); exact BF.Bn.mul (by walk_at "bn") (by walk_at "bn")) | ((with_reducible show BF.Bn _ ((_ : Int) + _)); exact BF.Bn.add (by walk_at "bn") (by walk_at "bn")) | ((with_reducible show BF.Bn _ ((_ : Int) - _)); exact BF.Bn.sub (by walk_at "bn") (by walk_at "bn")) | exact BF.Sz.bn (by with_reducible assumption) | exact BF.bnl (n := 80) (by decide))
local macro_rules | `(tactic| walk_at "ps") => `(tactic| first | with_reducible assumption | decide | exact BF.Sz.pos (by with_reducible assumption) | omega)
local macro_rules | `(tactic| walk_at "sd") => `(tactic| first | with_reducible assumption | ((with_reducible show L2.CPow _ _); exact ⟨by decide, by decide, by decide⟩) | ((with_reducible show L2.CDivW _ _); first | exact BF.divOk_lit (by decide) (by decide) | exact BF.Bn.divOk (by walk_at "bn") (by walk_at "ps") (by decide) (by decide)) | ((with_reducible show L2.CMulX _ _); exact BF.Bn.mulOk (by walk_at "bn") (by walk_at "bn") (by decide)) | ((with_reducible show _ ≤ PySem.sizeLine); exact BF.size4 (by simp)) | ((with_reducible show (0 : Int) < _); walk_at "ps") | ((with_reducible show (_ : Int) ≤ _); omega) | ((with_reducible show (_ : Int) < _); omega))
local macro_rules | `(tactic| walk_at "rd1") => `(tactic| first | refine And.intro (by walk_at "sd") ?_ | refine ⟨_, rfl, ?_⟩ | refine And.intro rfl ?_ | refine ⟨_, _, rfl, rfl, ?_⟩ | refine ⟨_, _, rfl, ?_⟩ | refine ⟨_, _, _, rfl, ?_⟩)
local macro_rules | `(tactic| walk_at "rd") => `(tactic| repeat walk_at "rd1")

/-! ### sums.py -/
namespace BF
open PySem PySem.Spec PyProof.Rows L2
/-- is_number(x): x of the built-in type T -/
inductive SpIsNumber (K : PySem.W.Frag) : Sp where
  | mk {x : V} {T : String} {i b : Bool} {H : Hp} {Q : VK} {E : XK} (ty : TyX K H x (.type T)) (hi : kitB T "int" = some i) (hb : kitB T "bool" = some b) (q : Q (.bl (i && !b)) H) : SpIsNumber K [x] H Q E
theorem num_int {K : PySem.W.Frag} {H : Hp} {Q : VK} {E : XK} {n : Int} (q : Q (.bl true) H) : SpIsNumber K [.int n] H Q E := .mk (T := "int") (i := true) (b := false) (.base (.int n)) (by decide +kernel) (by decide +kernel) q
section
variable {P : Program} {w : World} {K : PySem.W.Frag} {mg : Str → Option Value} {base : Heap}
theorem H_is_number (p : Pl K mg "is_number" s_is_number) (B : Bi mg) : Has P w K mg base CX0 1 "is_number" ["thing"] (SpIsNumber K) := by
  refine p.mk0 sc_is_number (fun _ _ _ _ _ _ us hl => match us, hl with | [_], _ => rfl) (fun vs H Q E h => ?_) (fun f cdv A outer s H vs Q E hr h => ?_)
  · cases h; rfl
  · obtain @⟨x, T, i, b, _, _, _, hT, hi, hb, q⟩ := h
    refine ⟨_, (pss_one (ps_ret (pe_and (pe_callB (r := rIsi K) call_isi (by rfl) B.isinstance (by decide +kernel) (pa_cons (pv 0) (pa_cons (pe_bltn (v := .ty "int") (by rfl) B.int (by decide +kernel) rfl) pa_nil))) (pe_one (pe_not (pe_callB (r := rIsi K) call_isi (by rfl) B.isinstance (by decide +kernel) (pa_cons (pv 0) (pa_cons (pe_bltn (v := .ty "bool") (by rfl) B.bool (by decide +kernel) rfl) pa_nil)))))))), ?_⟩
    refine ⟨_, rfl, x, _, _, _, i, rfl, .ty "int", hT, kit_ty hi, i, rfl, ?_⟩
    cases i with
    | false => exact iteF q
    | true => exact iteT ⟨_, rfl, x, _, _, _, b, rfl, .ty "bool", hT, kit_ty hb, b, rfl, q⟩
theorem ints_at {ns : List Int} {i : Nat} {y : V} (h : (ns.map V.int)[i]? = some y) : ∃ n, ns[i]? = some n ∧ y = .int n := by
  rw [List.getElem?_map] at h
  cases e : ns[i]? with
  | none => rw [e] at h; cases h
  | some n =>
    rw [e] at h
    exact ⟨n, rfl, (Option.some.inj h).symm⟩
end
end BF

namespace BF
open PySem PySem.Spec PyProof.Rows L2
/-- check_sizes(some), all of them sizes -/
inductive SpCheckSizes (K : PySem.W.Frag) : Sp where
  | mk {a : Addr} {ns : List Int} {H : Hp} {Q : VK} {E : XK} (hS : SqL K H a (ns.map V.int)) (hp : ∀ n ∈ ns, 0 < n) (q : Q .non H) : SpCheckSizes K [.ref a] H Q E
section
variable {P : Program} {w : World} {K : PySem.W.Frag} {mg : Str → Option Value} {base : Heap}
theorem H_check_sizes (p : Pl K mg "check_sizes" s_check_sizes) (h_is_number : Has P w K mg base CX0 1 "is_number" ["thing"] (SpIsNumber K)) : Has P w K mg base CX0 2 "check_sizes" ["some"] (SpCheckSizes K) := by
  refine p.mk0 sc_check_sizes (fun _ _ _ _ _ _ us hl => match us, hl with | [_], _ => rfl) (fun vs H Q E h => ?_) (fun f cdv A outer s H vs Q E hr h => ?_)
  · cases h; rfl
  · obtain @⟨a, ns, _, _, _, hS, hp, q⟩ := h
    refine ⟨_, (pss_one (ps_for PassesOwn.never (by rfl) (pi_list (pv 0)) (pg_name (i := 1) sc_check_sizes.nd rfl (Or.inl rfl)) (pss_one (ps_if (PW.pt (pw_or (pt_not (pt_val (pe_fn h_is_number (hr.mono (by decide)) pass0 (pa_cons (pv 1) pa_nil)))) (pw_or1 (pt_cmpR op_lt (pv 1) pe_int (nomark _))))) (pss_one ps_never) pss_nil)))), ?_⟩
    refine ⟨_, rfl, a, rfl, ⟨_, hS⟩, for_list (K := K) (a := a) (xs := ns.map V.int) (fun i σ H' => H' = H ∧ ∃ y, σ = [some (.ref a), y]) ⟨rfl, none, rfl⟩ (fun i σ H' _ ⟨e, _⟩ => by rw [e]; exact hS) ?_ ?_⟩
    · rintro i y σ H' hi ⟨rfl, z, rfl⟩
      obtain ⟨n, hn, rfl⟩ := ints_at hi
      have h0 := hp n (List.mem_of_getElem? hn)
      refine ⟨_, rfl, num_int ⟨true, rfl, iteF ⟨_, rfl, _, _, rfl, rfl, _, rfl, ?_⟩⟩⟩
      rw [decide_eq_false (by omega)]
      exact iteF ⟨rfl, _, rfl⟩
    · rintro σ H' ⟨rfl, z, rfl⟩
      exact q
end
end BF

namespace BF
open PySem PySem.Spec PyProof.Rows L2
inductive SpShared : Sp where
  | mk {a b : Int} {H : Hp} {Q : VK} {E : XK} (ha : Sz a) (hb : Sz b) (q : ∀ g t p H', Good a b g t → g ≤ b → 0 ≤ t → t < b → Same H H' → H' p = some (.tup [.int g, .int t]) → Q (.ref p) H') : SpShared [.int a, .int b] H Q E
/-- what parts_of hands back: None, or a new pair -/
def tellParts (x : Option (Int × Int)) (H : Hp) (Q : VK) : Prop := match x with
  | none => ∀ H', Same H H' → Q .non H'
  | some y => ∀ p H', Same H H' → H p = none → H' p = some (.tup [.int y.1, .int y.2]) → Q (.ref p) H'
theorem tellParts.mono {x : Option (Int × Int)} {H H' : Hp} {Q : VK} (q : tellParts x H Q) (sm : Same H H') : tellParts x H' Q := by
  cases x with
  | none => exact fun H2 s2 => q H2 (sm.trans s2)
  | some y => exact fun p H2 s2 hn hp => q p H2 (sm.trans s2) (sm.free hn) hp
/-- the value that tells x -/
def Told (x : Option (Int × Int)) (H : Hp) (v : V) : Prop := match x with
  | none => v = .non
  | some y => ∃ p, v = .ref p ∧ H p = some (.tup [.int y.1, .int y.2])
theorem Told.mono {x : Option (Int × Int)} {H H' : Hp} {v : V} (h : Told x H v) (sm : Same H H') : Told x H' v := by
  cases x with
  | none => exact h
  | some y =>
    obtain ⟨p, e, hp⟩ := h
    exact ⟨p, e, sm _ _ hp⟩
theorem tell_of {x : Option (Int × Int)} {H : Hp} {Q : VK} (q : ∀ v H', Same H H' → Told x H' v → Q v H') : tellParts x H Q := by
  cases x with
  | none => exact fun H' sm => q _ H' sm rfl
  | some y => exact fun p H' sm _ hp => q _ H' sm ⟨p, rfl, hp⟩
inductive SpParts : Sp where
  | mk {s a b : Int} {H : Hp} {Q : VK} {E : XK} (hs : Sz s) (ha : Sz a) (hb : Sz b) (q : tellParts (parts s a b) H Q) : SpParts [.int s, .int a, .int b] H Q E
section
variable {P : Program} {w : World} {K : PySem.W.Frag} {mg : Str → Option Value} {base : Heap}
theorem H_shared (p : Pl K mg "shared" s_shared) : Has P w K mg base CX0 1 "shared" ["one", "other"] SpShared := by
  refine p.mk0 sc_shared (fun _ _ _ _ _ _ us hl => match us, hl with | [_, _], _ => rfl) (fun vs H Q E h => ?_) (fun f cdv A outer s H vs Q E hr h => ?_)
  · cases h; rfl
  · obtain @⟨a, b, _, _, _, ha, hb, q⟩ := h
    refine ⟨_, (pss_cons (ps_asg (pe_tup (pa_cons pe_int (pa_cons pe_int pa_nil))) (pg_tup (by rfl) (pgs_cons (pg_name (i := 2) sc_shared.nd rfl (Or.inl rfl)) (pgs_cons (pg_name (i := 3) sc_shared.nd rfl (Or.inl rfl)) pgs_nil))))
      (pss_cons (ps_set (i := 4) sc_shared.nd rfl (Or.inl rfl) (pv 1))
      (pss_cons (ps_while PassesOwn.never (pt_cmpR op_gt (pv 1) pe_int (nomark _)) (pss_cons (ps_set (i := 5) sc_shared.nd rfl (Or.inl rfl) (pe_op op_fdivW (pv 0) (pv 1)))
      (pss_cons (ps_par (i := 0) (j := 1) (by rfl) sc_shared.nd rfl rfl (by decide) rfl rfl (pa_cons (pv 1) (pa_cons (pe_op op_sub (pv 0) (pe_op op_mulX (pv 5) (pv 1))) pa_nil)) (by rfl))
      (pss_one (ps_par (i := 2) (j := 3) (by rfl) sc_shared.nd rfl rfl (by decide) rfl rfl (pa_cons (pv 3) (pa_cons (pe_op op_sub (pv 2) (pe_op op_mulX (pv 5) (pv 3))) pa_nil)) (by rfl))))))
      (pss_one (ps_ret (pe_tup (pa_cons (pv 0) (pa_cons (pe_op op_mod (pv 2) (pv 4)) pa_nil)))))))), ?_⟩
    refine ⟨by show 2 ≤ sizeLine; decide, fun p0 hp0 => ⟨p0, _, rfl, sqT upd_same, rfl, _, _, rfl, _, _, rfl, rfl, ?_⟩⟩
    have sm0 : Same H (upd H p0 (.tup [.int 1, .int 0])) := same_upd hp0
    refine ⟨_, rfl, while_by (fun σ H' => Same H H' ∧ ∃ one other mine theirs y, σ = [some (.int one), some (.int other), some (.int mine), some (.int theirs), some (.int b), y] ∧ ShInv a b one other mine theirs)
      (fun σ _ => slotN σ 1) ⟨sm0, a, b, 1, 0, none, rfl, ShInv.start ha.pos hb.pos⟩ ?_ (fun σ H Q Q' hq h => ?_)⟩
    · rintro σ H' ⟨sm, one, other, mine, theirs, y, rfl, I⟩
      have b1 : Bn 2000 one := by
        rcases I.l1 with l | l
        · exact ha.bn.of_le (Int.le_of_lt I.o1) l
        · exact hb.bn.of_le (Int.le_of_lt I.o1) l
      have b2 : Bn 2000 other := hb.bn.of_le I.o2 I.l2
      have b3 : Bn 2000 theirs := hb.bn.le I.theirs_le.1
      refine ⟨_, rfl, _, _, rfl, rfl, _, rfl, iteD (fun ho => ?_) (fun ho' => ?_)⟩
      · have ho : 0 < other := ho
        have bq : Bn 2000 (one / other) := b1.div ho
        obtain ⟨t1, t2, t3⟩ := I.turn ho
        refine ⟨_, rfl, _, rfl, _, _, rfl, rfl, b2.divOk ho (by decide) (by decide), ?_⟩
        refine ⟨_, rfl, _, rfl, _, rfl, _, rfl, _, _, rfl, rfl, bq.mulOk b2 (by decide), _, _, rfl, rfl, _, _, rfl, ?_⟩
        refine ⟨_, rfl, _, rfl, _, rfl, _, rfl, _, _, rfl, rfl, bq.mulOk b3 (by decide), _, _, rfl, rfl, _, _, rfl, ?_⟩
        exact ⟨⟨sm, _, _, _, _, _, rfl, t1⟩, (show (one - one / other * other).toNat < other.toNat by omega)⟩
      · have ho : other = 0 := by
          have h1 : ¬ 0 < other := ho'
          have h2 := I.o2
          omega
        subst ho
        obtain ⟨G, l⟩ := I.done ha.pos hb.pos
        refine ⟨_, rfl, _, rfl, _, rfl, _, _, rfl, rfl, hb.pos, by show 2 ≤ sizeLine; decide, fun p hp => ?_⟩
        exact q _ _ p _ G l (Int.emod_nonneg _ (Int.ne_of_gt hb.pos)) (Int.emod_lt_of_pos _ hb.pos) (sm.trans (same_upd hp)) upd_same
    · obtain ⟨v, e, i, j, e1, e2, k, e3, q⟩ := h
      exact ⟨v, e, i, j, e1, e2, k, e3, hq _ _ q⟩
theorem H_parts_of (p : Pl K mg "parts_of" s_parts_of) (h_shared : Has P w K mg base CX0 1 "shared" ["one", "other"] SpShared) : Has P w K mg base CX0 2 "parts_of" ["size", "first", "second"] SpParts := by
  refine p.mk0 sc_parts_of (fun _ _ _ _ _ _ us hl => match us, hl with | [_, _, _], _ => rfl) (fun vs H Q E h => ?_) (fun f cdv A outer s H vs Q E hr h => ?_)
  · cases h; rfl
  · obtain @⟨sz, a, b, _, _, _, hs, ha, hb, q⟩ := h
    refine ⟨_, (pss_cons (ps_asg (pe_fn h_shared (hr.mono (by decide)) pass0 (pa_cons (pv 1) (pa_cons (pv 2) pa_nil))) (pg_tup (by rfl) (pgs_cons (pg_name (i := 3) sc_parts_of.nd rfl (Or.inl rfl)) (pgs_cons (pg_name (i := 4) sc_parts_of.nd rfl (Or.inl rfl)) pgs_nil))))
      (pss_cons (ps_if (pt_cmpR op_ne (pe_op op_mod (pv 0) (pv 3)) pe_int (nomark _)) (pss_one (ps_ret pe_non)) pss_nil)
      (pss_cons (ps_set (i := 5) sc_parts_of.nd rfl (Or.inl rfl) (pe_op op_mod (pe_op op_mulX (pe_op op_fdivW (pv 0) (pv 3)) (pv 4)) (pe_op op_fdivW (pv 2) (pv 3))))
      (pss_cons (ps_if (pt_cmpR op_gt (pe_op op_mulX (pv 5) (pv 1)) (pv 0) (nomark _)) (pss_one (ps_ret pe_non)) pss_nil)
      (pss_one (ps_ret (pe_tup (pa_cons (pv 5) (pa_cons (pe_op op_fdivW (pe_op op_sub (pv 0) (pe_op op_mulX (pv 5) (pv 1))) (pv 2)) pa_nil))))))))), ?_⟩
    refine ⟨_, rfl, _, rfl, .mk ha hb fun g t p H1 G lg t0 t1 sm hp => ?_⟩
    refine ⟨p, _, rfl, sqT hp, rfl, _, _, rfl, _, _, rfl, rfl, ?_⟩
    have e := parts_good (s := sz) ha.pos hb.pos G
    have bg : Bn 2000 g := hb.bn.of_le (Int.le_of_lt G.pos) lg
    have bt : Bn 2000 t := hb.bn.of_le t0 (Int.le_of_lt t1)
    have hbg : 0 < b / g := by
      obtain ⟨c, ec⟩ := G.gb
      have := hb.pos
      have e2 : b / g = c := by rw [ec]; exact Int.mul_ediv_cancel_left c (Int.ne_of_gt G.pos)
      rw [e2]
      rcases Int.lt_or_le 0 c with h | h
      · exact h
      · have h3 : g * c ≤ g * 0 := Int.mul_le_mul_of_nonneg_left h (Int.le_of_lt G.pos)
        omega
    refine ⟨_, rfl, _, rfl, _, _, rfl, rfl, G.pos, rfl, _, rfl, iteNe (fun c1 => ?_) (fun c2 => ?_)⟩
    · have c1 : sz % g ≠ 0 := c1
      rw [if_pos c1] at e
      rw [e] at q
      exact q _ sm
    · have c1 : ¬ sz % g ≠ 0 := fun z => z c2
      rw [if_neg c1] at e
      have bf : Bn 2000 (sz / g * t % (b / g)) := (hb.bn.div G.pos).mod hbg
      refine ⟨_, rfl, _, rfl, _, _, rfl, rfl, bg.divOk G.pos (by decide) (by decide), _, rfl, _, _, rfl, rfl, (hs.bn.div G.pos).mulOk bt (by decide), _, rfl, _, rfl, _, _, rfl, rfl, bg.divOk G.pos (by decide) (by decide), _, _, rfl, rfl, hbg, ?_⟩
      refine ⟨_, rfl, _, rfl, _, _, rfl, rfl, bf.mulOk ha.bn (by decide), _, rfl, _, _, rfl, rfl, _, rfl, iteD (fun d => ?_) (fun d => ?_)⟩
      · rw [if_pos d] at e
        rw [e] at q
        exact q _ sm
      · rw [if_neg d] at e
        rw [e] at q
        refine ⟨_, rfl, _, rfl, _, rfl, _, rfl, _, _, rfl, rfl, bf.mulOk ha.bn (by decide), _, _, rfl, rfl, _, rfl, _, _, rfl, rfl, hb.bn.divOk hb.pos (by decide) (by decide), by show 2 ≤ sizeLine; decide, fun p' hp' => ?_⟩
        exact q p' _ (sm.trans (same_upd hp')) (sm.free hp') upd_same
end
end BF

/-! ### what bars, in plain words -/
namespace BF
open PySem L2
def strB (L W d : Int) : Bool := !decide (L % d = 0) && !decide (W % d = 0)
noncomputable def shoB (x f s : Int) : Bool := (parts x f s).isNone
/-- those of 0, 1 that are so -/
def two (a b : Bool) : List Int := (if a then [0] else []) ++ (if b then [1] else [])
def strL (L W f s : Int) : List Int := two (strB L W f) (strB L W s)
noncomputable def shoL (L W f s : Int) : List Int := two (shoB L f s) (shoB W f s)
/-- whether a side bars: 0, 1 of the brick, 2, 3 of the floor -/
noncomputable def barB (L W f s : Int) (k : Int) : Bool := if k < 2 then strB L W (if k = 0 then f else s) else shoB (if k = 2 then L else W) f s
end BF
namespace BF
theorem sho_no {x f s m n : Int} (hf : 0 < f) (hs : 0 < s) (h : Rep x f s m n) : shoB x f s = false := by
  have p := parts_is (s := x) hf hs
  unfold shoB
  cases e : parts x f s with
  | none =>
    rw [e] at p
    exact absurd h (p m n)
  | some y => rfl
theorem sho_yes {x f s : Int} (hs : 0 < s) (h : ∀ m n, ¬ Rep x f s m n) : shoB x f s = true := by
  have p := parts_eq (s := x) (a := f) (b := s) (x := none) hs h
  unfold shoB
  rw [p]
  rfl
end BF

/-! ### answers.py: what bars -/
namespace BF
open PySem PySem.Spec PyProof.Rows L2
inductive SpStriped : Sp where
  | mk {L W d : Int} {H : Hp} {Q : VK} {E : XK} (hd : 0 < d) (q : Q (.bl (strB L W d)) H) : SpStriped [.int L, .int W, .int d] H Q E
inductive SpBars : Sp where
  | mk {L W f s : Int} {H : Hp} {Q : VK} {E : XK} (hL : Sz L) (hW : Sz W) (hf : Sz f) (hs : Sz s)
      (q : ∀ p p1 p2 H', Same H H' → H' p = some (.tup [.ref p1, .ref p2]) → H' p1 = some (.lst ((strL L W f s).map V.int)) → H' p2 = some (.lst ((shoL L W f s).map V.int)) → Q (.ref p) H') : SpBars [.int L, .int W, .int f, .int s] H Q E
/-- what two tests have picked behind i turns -/
def twoN (a b : Bool) : Nat → List Int
  | 0 => []
  | 1 => if a then [0] else []
  | _ => two a b
section
variable {P : Program} {w : World} {K : PySem.W.Frag} {mg : Str → Option Value} {base : Heap}
theorem H_is_striped (p : Pl K mg "is_striped" s_is_striped) : Has P w K mg base CX0 1 "is_striped" ["length", "width", "side"] SpStriped := by
  refine p.mk0 sc_is_striped (fun _ _ _ _ _ _ us hl => match us, hl with | [_, _, _], _ => rfl) (fun vs H Q E h => ?_) (fun f cdv A outer s H vs Q E hr h => ?_)
  · cases h; rfl
  · obtain @⟨L, W, d, _, _, _, hd, q⟩ := h
    refine ⟨_, (pss_one (ps_ret (pe_and (pe_cmpR op_ne (pe_op op_mod (pv 0) (pv 2)) pe_int (nomark _)) (pe_one (pe_cmpR op_ne (pe_op op_mod (pv 1) (pv 2)) pe_int (nomark _)))))), ?_⟩
    unfold strB at q
    walk_at "rd"
    refine iteNe (fun c => ?_) (fun c => ?_)
    · rw [decide_eq_false c] at q
      walk_at "rd"
      have e : decide (V.int (W % d) = V.int 0) = decide (W % d = 0) := decide_eq_decide.mpr ⟨fun z => V.int.inj z, fun z => congrArg V.int z⟩
      rw [show (!decide (V.int (W % d) = V.int 0)) = (!false && !decide (W % d = 0)) by rw [e]; rfl]
      exact q
    · rw [decide_eq_true c] at q
      exact q
theorem H_what_bars (p : Pl K mg "what_bars" s_what_bars) (B : Bi mg) (h_is_striped : Has P w K mg base CX0 1 "is_striped" ["length", "width", "side"] SpStriped) (h_parts_of : Has P w K mg base CX0 2 "parts_of" ["size", "first", "second"] SpParts) :
    Has P w K mg base CX0 3 "what_bars" ["length", "width", "first", "second"] SpBars := by
  refine p.mk0 sc_what_bars (fun _ _ _ _ _ _ us hl => match us, hl with | [_, _, _, _], _ => rfl) (fun vs H Q E h => ?_) (fun f cdv A outer s H vs Q E hr h => ?_)
  · cases h; rfl
  · obtain @⟨L, W, fi, se, _, _, _, hL, hW, hf, hs, q⟩ := h
    refine ⟨_, (pss_cons (ps_setLc (i := 4) (own := [("which", 6), ("side", 7)]) (g := (gTup K 2 (gCons (gName 6) (gCons (gName 7) gNil)))) (by rfl) sc_what_bars.nd rfl rfl (sw_true rfl rfl rfl (by decide +kernel)) (pi_enumT (by rfl) B.enumerate (pa_cons (pe_tup (pa_cons (pv 2) (pa_cons (pv 3) pa_nil))) pa_nil)) (blkOk_by (own := [("which", 6), ("side", 7)]) (N := ["length", "width", "first", "second", "striped", "short", "which", "side"]) (sc := defScope s_what_bars) (by decide +kernel)) (fun _ _ _ _ _ => (pg_tup (by rfl) (pgs_cons (pg_name (i := 6) sc_what_bars.nd rfl (Or.inl rfl)) (pgs_cons (pg_name (i := 7) sc_what_bars.nd rfl (Or.inl rfl)) pgs_nil)))) (fun _ _ _ _ _ => pts_one (pt_val (pe_fn h_is_striped (hr.mono (by decide)) pass0 (pa_cons (pv 0) (pa_cons (pv 1) (pa_cons (pv 7) pa_nil)))))) (fun _ _ _ _ _ => (pv 6)))
      (pss_cons (ps_setLc (i := 5) (own := [("which", 6), ("side", 7)]) (g := (gTup K 2 (gCons (gName 6) (gCons (gName 7) gNil)))) (by rfl) sc_what_bars.nd rfl rfl (sw_true rfl rfl rfl (by decide +kernel)) (pi_enumT (by rfl) B.enumerate (pa_cons (pe_tup (pa_cons (pv 0) (pa_cons (pv 1) pa_nil))) pa_nil)) (blkOk_by (own := [("which", 6), ("side", 7)]) (N := ["length", "width", "first", "second", "striped", "short", "which", "side"]) (sc := defScope s_what_bars) (by decide +kernel)) (fun _ _ _ _ _ => (pg_tup (by rfl) (pgs_cons (pg_name (i := 6) sc_what_bars.nd rfl (Or.inl rfl)) (pgs_cons (pg_name (i := 7) sc_what_bars.nd rfl (Or.inl rfl)) pgs_nil)))) (fun _ _ _ _ _ => pts_one (pt_cmpR op_isN (pe_fn h_parts_of (hr.mono (by decide)) pass0 (pa_cons (pv 7) (pa_cons (pv 2) (pa_cons (pv 3) pa_nil)))) pe_non (nomark _))) (fun _ _ _ _ _ => (pv 6)))
      (pss_one (ps_ret (pe_tup (pa_cons (pv 4) (pa_cons (pv 5) pa_nil))))))), ?_⟩
    walk_at "rd"
    intro t1 ht1
    generalize hH1 : upd H t1 _ = H1
    obtain ⟨sm1, up1⟩ : Same H H1 ∧ H1 t1 = some (.tup [.int fi, .int se]) := newH hH1 ht1
    clear hH1
    refine ⟨t1, _, rfl, sqT up1, fun D1 hD1 => lc_enumT (K := K) (a := t1) (xs := [.int fi, .int se]) (fun i H' => Same H1 H' ∧ H' D1 = some (.lst ((twoN (strB L W fi) (strB L W se) i).map V.int))) ⟨same_upd hD1, upd_same⟩ (fun i H' _ ⟨sm, _⟩ => sqT (sm _ _ up1)) ?_ ?_⟩
    · rintro i x T H' hx ⟨sm, eD⟩ hT
      obtain ⟨d, rfl, hd⟩ : ∃ d : Int, x = .int d ∧ ((i = 0 ∧ d = fi) ∨ (i = 1 ∧ d = se)) := by
        match i, hx with
        | 0, e => cases e; exact ⟨_, rfl, .inl ⟨rfl, rfl⟩⟩
        | 1, e => cases e; exact ⟨_, rfl, .inr ⟨rfl, rfl⟩⟩
        | n + 2, e => cases e
      have hdp : 0 < d := by
        rcases hd with ⟨_, rfl⟩ | ⟨_, rfl⟩
        · exact hf.pos
        · exact hs.pos
      have eD2 := same_upd (o := .tup [.int (i : Nat), .int d]) hT _ _ eD
      refine ⟨T, _, rfl, sqT upd_same, rfl, ?_⟩
      have sm2 : Same H1 (upd H' T (.tup [.int (i : Nat), .int d])) := sm.trans (same_upd hT)
      generalize upd H' T (.tup [.int (i : Nat), .int d]) = H2 at eD2 sm2 ⊢
      walk_at "rd"
      refine .mk hdp ⟨_, rfl, iteB (fun c => ?_) (fun c => ?_)⟩
      · refine ⟨_, rfl, _, eD2, ?_, ?_, ?_⟩
        · rw [List.length_map]
          refine Nat.lt_of_le_of_lt (m := 2) ?_ (by decide)
          rcases hd with ⟨rfl, _⟩ | ⟨rfl, _⟩
          · exact Nat.zero_le _
          · show (if strB L W fi then [(0 : Int)] else []).length ≤ 2; split <;> decide
        · exact fun b o e => by rw [upd_ne (ne_of_none e hD1)]; exact sm2 b o e
        · rw [upd_same]
          rcases hd with ⟨rfl, rfl⟩ | ⟨rfl, rfl⟩
          · show some (HO.lst ([] ++ [V.int 0])) = some (HO.lst ((if strB L W d then [0] else []).map V.int))
            rw [c]
            rfl
          · show some (HO.lst ((if strB L W fi then [0] else []).map V.int ++ [V.int 1])) = some (HO.lst ((two (strB L W fi) (strB L W d)).map V.int))
            unfold two
            rw [c, List.map_append]
            rfl
      · refine ⟨sm2, ?_⟩
        rw [eD2]
        rcases hd with ⟨rfl, rfl⟩ | ⟨rfl, rfl⟩
        · show some (HO.lst []) = some (HO.lst ((if strB L W d then [0] else []).map V.int))
          rw [c]
          rfl
        · show some (HO.lst ((if strB L W fi then [0] else []).map V.int)) = some (HO.lst ((two (strB L W fi) (strB L W d)).map V.int))
          unfold two
          rw [c]
          simp
    · rintro H2 ⟨sm2, eD1⟩
      walk_at "rd"
      intro t2 ht2
      generalize hH3 : upd H2 t2 _ = H3
      obtain ⟨sm3, up3⟩ : Same H2 H3 ∧ H3 t2 = some (.tup [.int L, .int W]) := newH hH3 ht2
      clear hH3
      refine ⟨t2, _, rfl, sqT up3, fun D2 hD2 => lc_enumT (K := K) (a := t2) (xs := [.int L, .int W]) (fun i H' => Same H3 H' ∧ H' D2 = some (.lst ((twoN (shoB L fi se) (shoB W fi se) i).map V.int))) ⟨same_upd hD2, upd_same⟩ (fun i H' _ ⟨sm, _⟩ => sqT (sm _ _ up3)) ?_ ?_⟩
      · rintro i x T H' hx ⟨sm, eD⟩ hT
        obtain ⟨d, rfl, hd⟩ : ∃ d : Int, x = .int d ∧ ((i = 0 ∧ d = L) ∨ (i = 1 ∧ d = W)) := by
          match i, hx with
          | 0, e => cases e; exact ⟨_, rfl, .inl ⟨rfl, rfl⟩⟩
          | 1, e => cases e; exact ⟨_, rfl, .inr ⟨rfl, rfl⟩⟩
          | n + 2, e => cases e
        have hdp : Sz d := by
          rcases hd with ⟨_, rfl⟩ | ⟨_, rfl⟩
          · exact hL
          · exact hW
        have eD2 := same_upd (o := .tup [.int (i : Nat), .int d]) hT _ _ eD
        refine ⟨T, _, rfl, sqT upd_same, rfl, ?_⟩
        have sm4 : Same H3 (upd H' T (.tup [.int (i : Nat), .int d])) := sm.trans (same_upd hT)
        generalize upd H' T (.tup [.int (i : Nat), .int d]) = H4 at eD2 sm4 ⊢
        walk_at "rd"
        refine .mk hdp hf hs (tell_of fun v H5 sm5 tv => ?_)
        have ev : (decide (v = .non)) = shoB d fi se := by
          unfold shoB
          cases hp : parts d fi se with
          | none =>
            rw [hp] at tv
            obtain rfl : v = .non := tv
            rfl
          | some y =>
            rw [hp] at tv
            obtain ⟨p5, rfl, _⟩ := tv
            rfl
        refine ⟨rfl, _, rfl, ?_⟩
        rw [ev]
        replace eD2 := sm5 _ _ eD2
        replace sm4 := sm4.trans sm5
        refine iteB (fun c => ?_) (fun c => ?_)
        · refine ⟨_, rfl, _, eD2, ?_, ?_, ?_⟩
          · rw [List.length_map]
            refine Nat.lt_of_le_of_lt (m := 2) ?_ (by decide)
            rcases hd with ⟨rfl, _⟩ | ⟨rfl, _⟩
            · exact Nat.zero_le _
            · show (if shoB L fi se then [(0 : Int)] else []).length ≤ 2; split <;> decide
          · exact fun b o e => by rw [upd_ne (ne_of_none e hD2)]; exact sm4 b o e
          · rw [upd_same]
            rcases hd with ⟨rfl, rfl⟩ | ⟨rfl, rfl⟩
            · show some (HO.lst ([] ++ [V.int 0])) = some (HO.lst ((if shoB d fi se then [0] else []).map V.int))
              rw [c]
              rfl
            · show some (HO.lst ((if shoB L fi se then [0] else []).map V.int ++ [V.int 1])) = some (HO.lst ((two (shoB L fi se) (shoB d fi se)).map V.int))
              unfold two
              rw [c, List.map_append]
              rfl
        · refine ⟨sm4, ?_⟩
          rw [eD2]
          rcases hd with ⟨rfl, rfl⟩ | ⟨rfl, rfl⟩
          · show some (HO.lst []) = some (HO.lst ((if shoB d fi se then [0] else []).map V.int))
            rw [c]
            rfl
          · show some (HO.lst ((if shoB L fi se then [0] else []).map V.int)) = some (HO.lst ((two (shoB L fi se) (shoB d fi se)).map V.int))
            unfold two
            rw [c]
            simp
      · rintro H4 ⟨sm4, eD2⟩
        walk_at "rd"
        intro t3 ht3
        have e1 : H4 D1 = _ := sm4 _ _ (sm3 _ _ eD1)
        exact q t3 D1 D2 _ (sm1.trans (sm2.trans (sm3.trans (sm4.trans (same_upd ht3))))) upd_same (same_upd ht3 _ _ e1) (same_upd ht3 _ _ eD2)
end
end BF

/-! ### stripes.py -/
namespace BF
open PySem PySem.Spec PyProof.Rows L2
theorem pairs_ifs (l h t : Int) : (if (if l - 1 < t then l - 1 else t) - (if t - h + 1 > 0 then t - h + 1 else 0) + 1 > 0 then (if l - 1 < t then l - 1 else t) - (if t - h + 1 > 0 then t - h + 1 else 0) + 1 else 0) = pairsI l h t := by
  unfold pairsI
  split <;> split <;> split <;> omega
inductive SpPairs : Sp where
  | mk {l h t : Int} {H : Hp} {Q : VK} {E : XK} (q : Q (.int (pairsI l h t)) H) : SpPairs [.int l, .int h, .int t] H Q E
inductive SpAlike : Sp where
  | mk {L W s c : Int} {H : Hp} {Q : VK} {E : XK} (hL : Sz L) (hW : Sz W) (hs : Sz s) (h0 : 0 ≤ c) (h1 : c < s) (q : ∀ H', Same H H' → Q (.int (alikeI L W s c)) H') : SpAlike [.int L, .int W, .int s, .int c] H Q E
section
variable {P : Program} {w : World} {K : PySem.W.Frag} {mg : Str → Option Value} {base : Heap}
theorem H_pairs_to (p : Pl K mg "pairs_to" s_pairs_to) (B : Bi mg) : Has P w K mg base CX0 1 "pairs_to" ["long", "high", "sum_wanted"] SpPairs := by
  refine p.mk0 sc_pairs_to (fun _ _ _ _ _ _ us hl => match us, hl with | [_, _, _], _ => rfl) (fun vs H Q E h => ?_) (fun f cdv A outer s H vs Q E hr h => ?_)
  · cases h; rfl
  · obtain @⟨l, hh, t, _, _, _, q⟩ := h
    refine ⟨_, (pss_one (ps_ret (pe_callB (call_max2 rfl) (by rfl) B.max (by decide +kernel) (pa_cons pe_int (pa_cons (pe_op op_add (pe_op op_sub (pe_callB (call_min2 rfl) (by rfl) B.min (by decide +kernel) (pa_cons (pv 2) (pa_cons (pe_op op_sub (pv 0) pe_int) pa_nil))) (pe_callB (call_max2 rfl) (by rfl) B.max (by decide +kernel) (pa_cons pe_int (pa_cons (pe_op op_add (pe_op op_sub (pv 2) (pv 1)) pe_int) pa_nil)))) pe_int) pa_nil))))), ?_⟩
    refine ⟨_, rfl, _, rfl, _, _, rfl, rfl, _, _, rfl, ?_⟩
    refine ⟨_, rfl, _, rfl, _, _, rfl, rfl, _, _, rfl, rfl, _, _, rfl, _, _, rfl, rfl, _, _, rfl, rfl, _, _, rfl, ?_⟩
    rw [← pairs_ifs l hh t] at q
    exact q
theorem H_alike (p : Pl K mg "alike" s_alike) (h_check_sizes : Has P w K mg base CX0 2 "check_sizes" ["some"] (SpCheckSizes K)) (h_is_number : Has P w K mg base CX0 1 "is_number" ["thing"] (SpIsNumber K))
    (h_pairs_to : Has P w K mg base CX0 1 "pairs_to" ["long", "high", "sum_wanted"] SpPairs) : Has P w K mg base CX0 3 "alike" ["length", "width", "size", "colour"] SpAlike := by
  refine p.mk0 sc_alike (fun _ _ _ _ _ _ us hl => match us, hl with | [_, _, _, _], _ => rfl) (fun vs H Q E h => ?_) (fun f cdv A outer s H vs Q E hr h => ?_)
  · cases h; rfl
  · obtain @⟨L, W, sz, c, _, _, _, hL, hW, hs, h0, h1, q⟩ := h
    refine ⟨_, (pss_cons (ps_expr (pe_fn h_check_sizes (hr.mono (by decide)) pass0 (pa_cons (pe_lst (pa_cons (pv 0) (pa_cons (pv 1) (pa_cons (pv 2) pa_nil)))) pa_nil)))
      (pss_cons (ps_if (PW.pt (pw_or (pt_not (pt_val (pe_fn h_is_number (hr.mono (by decide)) pass0 (pa_cons (pv 3) pa_nil)))) (pw_or1 (pt_not (pt_chain op_le op_lt pe_int (pv 3) (pv 2)))))) (pss_one ps_never) pss_nil)
      (pss_cons (ps_par (i := 4) (j := 5) (by rfl) sc_alike.nd rfl rfl (by decide) rfl rfl (pa_cons (pe_op op_mod (pv 0) (pv 2)) (pa_cons (pe_op op_mod (pv 1) (pv 2)) pa_nil)) (by rfl))
      (pss_cons (ps_set (i := 6) sc_alike.nd rfl (Or.inl rfl) (pe_op op_add (pe_op op_mulX (pe_op op_fdivW (pv 0) (pv 2)) (pv 1)) (pe_op op_mulX (pv 4) (pe_op op_fdivW (pv 1) (pv 2)))))
      (pss_one (ps_ret (pe_op op_add (pe_op op_add (pv 6) (pe_fn h_pairs_to (hr.mono (by decide)) pass0 (pa_cons (pv 4) (pa_cons (pv 5) (pa_cons (pv 3) pa_nil))))) (pe_fn h_pairs_to (hr.mono (by decide)) pass0 (pa_cons (pv 4) (pa_cons (pv 5) (pa_cons (pe_op op_add (pv 3) (pv 2)) pa_nil))))))))))), ?_⟩
    refine ⟨_, rfl, _, rfl, _, rfl, by show 3 ≤ sizeLine; decide, fun p hp => .mk (ns := [L, W, sz]) (sqL upd_same) ?_ ?_⟩
    · intro n hn
      have e : n = L ∨ n = W ∨ n = sz := by simpa using hn
      rcases e with rfl | rfl | rfl
      · exact hL.pos
      · exact hW.pos
      · exact hs.pos
    · have sm : Same H (upd H p (.lst ([L, W, sz].map V.int))) := same_upd hp
      refine ⟨_, rfl, num_int ⟨true, rfl, iteF ?_⟩⟩
      refine ⟨_, rfl, _, _, rfl, rfl, _, rfl, iteP h0 ⟨_, rfl, _, _, rfl, rfl, _, rfl, iteNP h1 ?_⟩⟩
      have p0 := hs.pos
      have m1 : Bn 2000 (L % sz) := hs.bn.mod p0
      have m2 : Bn 2000 (W % sz) := hs.bn.mod p0
      refine ⟨_, rfl, _, rfl, _, _, rfl, rfl, p0, _, rfl, _, rfl, _, _, rfl, rfl, p0, _, _, rfl, ?_⟩
      refine ⟨_, rfl, _, rfl, _, _, rfl, rfl, hs.bn.divOk p0 (by decide) (by decide), _, rfl, _, _, rfl, rfl, (hL.bn.div p0).mulOk hW.bn (by decide), ?_⟩
      refine ⟨_, rfl, _, rfl, _, rfl, _, _, rfl, rfl, hs.bn.divOk p0 (by decide) (by decide), _, _, rfl, rfl, m1.mulOk (hW.bn.div p0) (by decide), _, _, rfl, rfl, ?_⟩
      refine ⟨_, rfl, _, rfl, _, rfl, _, rfl, .mk ⟨_, _, rfl, rfl, ?_⟩⟩
      exact ⟨_, rfl, _, rfl, _, rfl, _, rfl, _, _, rfl, rfl, .mk ⟨_, _, rfl, rfl, q _ sm⟩⟩
end
end BF

/-! ### answers.py: bricks and cells -/
namespace BF
open PySem PySem.Spec PyProof.Rows L2
def cellV (c : Int × Int) : List V := [.int c.1, .int c.2]
/-- a brick's tuple, a list of bricks -/
def BrAll (K : PySem.W.Frag) (H : Hp) (ps : List (Addr × Brick)) : Prop := ∀ p ∈ ps, SqT K H p.1 p.2.vs
def refs {α : Type} (ps : List (Addr × α)) : List V := ps.map fun p => V.ref p.1
def vals {α : Type} (ps : List (Addr × α)) : List α := ps.map (·.2)
theorem BrAll.mono {K : PySem.W.Frag} {H H' : Hp} {ps : List (Addr × Brick)} (h : BrAll K H ps) (sm : Same H H') : BrAll K H' ps := fun p hp => Same.tup sm (h p hp)
theorem refs_at {α : Type} {ps : List (Addr × α)} {i : Nat} {v : V} (h : (refs ps)[i]? = some v) : ∃ p, ps[i]? = some p ∧ v = .ref p.1 ∧ p ∈ ps := by
  unfold refs at h
  rw [List.getElem?_map] at h
  cases e : ps[i]? with
  | none => rw [e] at h; cases h
  | some p =>
    rw [e] at h
    exact ⟨p, rfl, (Option.some.inj h).symm, List.mem_of_getElem? e⟩
theorem refs_len {α : Type} (ps : List (Addr × α)) : (refs ps).length = ps.length := List.length_map _
theorem vals_len {α : Type} (ps : List (Addr × α)) : (vals ps).length = ps.length := List.length_map _
inductive SpBeyond (K : PySem.W.Frag) : Sp where
  | mk {o : Addr} {b : Brick} {L W f s : Int} {H : Hp} {Q : VK} {E : XK} (ho : SqT K H o b.vs) (q : ∀ H', Same H H' → Q (.bl (beyB L W f s b)) H') : SpBeyond K [.int L, .int W, .int f, .int s, .ref o] H Q E
inductive SpCovers (K : PySem.W.Frag) : Sp where
  | mk {o t : Addr} {b : Brick} {c : Int × Int} {f s : Int} {H : Hp} {Q : VK} {E : XK} (ho : SqT K H o b.vs) (ht : SqT K H t (cellV c)) (q : ∀ H', Same H H' → Q (.bl (covB f s c b)) H') : SpCovers K [.int f, .int s, .ref o, .ref t] H Q E
inductive SpOften (K : PySem.W.Frag) : Sp where
  | mk {l t : Addr} {ps : List (Addr × Brick)} {c : Int × Int} {f s : Int} {H : Hp} {Q : VK} {E : XK} (hl : SqL K H l (refs ps)) (hb : BrAll K H ps) (hn : ps.length ≤ 10000) (ht : SqT K H t (cellV c)) (q : ∀ H', Same H H' → Q (.int (oftN f s (vals ps) c : Nat)) H') :
    SpOften K [.int f, .int s, .ref l, .ref t] H Q E
section
variable {P : Program} {w : World} {K : PySem.W.Frag} {mg : Str → Option Value} {base : Heap}
theorem H_is_beyond (p : Pl K mg "is_beyond" s_is_beyond) : Has P w K mg base CX0 1 "is_beyond" ["length", "width", "first", "second", "brick"] (SpBeyond K) := by
  refine p.mk0 sc_is_beyond (fun _ _ _ _ _ _ us hl => match us, hl with | [_, _, _, _, _], _ => rfl) (fun vs H Q E h => ?_) (fun f cdv A outer s H vs Q E hr h => ?_)
  · cases h; rfl
  · obtain @⟨o, ⟨x, y, l⟩, L, W, fi, se, _, _, _, ho, q⟩ := h
    refine ⟨_, (pss_cons (ps_asg (pe_ifExp (pt_val (pe_ix (r := rIxT K) ix_tup (pv 4) pe_int (fun _ _ => rfl))) (pe_tup (pa_cons (pv 2) (pa_cons (pv 3) pa_nil))) (pe_tup (pa_cons (pv 3) (pa_cons (pv 2) pa_nil)))) (pg_tup (by rfl) (pgs_cons (pg_name (i := 5) sc_is_beyond.nd rfl (Or.inl rfl)) (pgs_cons (pg_name (i := 6) sc_is_beyond.nd rfl (Or.inl rfl)) pgs_nil))))
      (pss_one (ps_ret (pe_or (pe_cmpR op_lt (pe_ix (r := rIxT K) ix_tup (pv 4) pe_int (fun _ _ => rfl)) pe_int (nomark _)) (pe_or (pe_cmpR op_lt (pe_ix (r := rIxT K) ix_tup (pv 4) pe_int (fun _ _ => rfl)) pe_int (nomark _)) (pe_or (pe_cmpR op_gt (pe_op op_add (pe_ix (r := rIxT K) ix_tup (pv 4) pe_int (fun _ _ => rfl)) (pv 5)) (pv 0) (nomark _)) (pe_one (pe_cmpR op_gt (pe_op op_add (pe_ix (r := rIxT K) ix_tup (pv 4) pe_int (fun _ _ => rfl)) (pv 6)) (pv 1) (nomark _))))))))), ?_⟩
    unfold beyB Brick.lo Brick.hi at q
    cases l
    all_goals
      simp only [Bool.false_eq_true, if_false, if_true] at q
      refine ⟨_, rfl, o, _, 2, _, rfl, rfl, ho, rfl, _, rfl, ?_⟩
      first | refine iteF ?_ | refine iteT ?_
      walk_at "rd"
      intro t ht
      generalize hH1 : upd H t _ = H1
      obtain ⟨sm1, up1⟩ := newH hH1 ht
      clear hH1
      have ho1 := Same.tup sm1 ho
      refine ⟨t, _, rfl, sqT up1, rfl, ?_⟩
      walk_at "rd"
      refine ⟨o, _, 0, _, rfl, rfl, ho1, rfl, _, _, rfl, rfl, _, rfl, iteD (fun c => ?_) (fun c => ?_)⟩
      · have c : x < 0 := c
        simp only [decide_eq_true c, Bool.true_or] at q
        exact q _ sm1
      have c : ¬ x < 0 := c
      simp only [decide_eq_false c, Bool.false_or] at q
      refine ⟨_, rfl, o, _, 1, _, rfl, rfl, ho1, rfl, _, _, rfl, rfl, _, rfl, iteD (fun c => ?_) (fun c => ?_)⟩
      · have c : y < 0 := c
        simp only [decide_eq_true c, Bool.true_or] at q
        exact q _ sm1
      have c : ¬ y < 0 := c
      simp only [decide_eq_false c, Bool.false_or] at q
      refine ⟨_, rfl, o, _, 0, _, rfl, rfl, ho1, rfl, ?_⟩
      walk_at "rd"
      refine iteD (fun c => ?_) (fun c => ?_)
      · simp only [decide_eq_true c, Bool.true_or] at q
        exact q _ sm1
      simp only [decide_eq_false c, Bool.false_or] at q
      refine ⟨_, rfl, o, _, 1, _, rfl, rfl, ho1, rfl, ?_⟩
      walk_at "rd"
      exact q _ sm1
theorem H_covers (p : Pl K mg "covers" s_covers) : Has P w K mg base CX0 1 "covers" ["first", "second", "brick", "cell"] (SpCovers K) := by
  refine p.mk0 sc_covers (fun _ _ _ _ _ _ us hl => match us, hl with | [_, _, _, _], _ => rfl) (fun vs H Q E h => ?_) (fun f cdv A outer s H vs Q E hr h => ?_)
  · cases h; rfl
  · obtain @⟨o, t, ⟨x, y, l⟩, ⟨c1, c2⟩, fi, se, _, _, _, ho, ht, q⟩ := h
    refine ⟨_, (pss_cons (ps_asg (pe_ifExp (pt_val (pe_ix (r := rIxT K) ix_tup (pv 2) pe_int (fun _ _ => rfl))) (pe_tup (pa_cons (pv 0) (pa_cons (pv 1) pa_nil))) (pe_tup (pa_cons (pv 1) (pa_cons (pv 0) pa_nil)))) (pg_tup (by rfl) (pgs_cons (pg_name (i := 4) sc_covers.nd rfl (Or.inl rfl)) (pgs_cons (pg_name (i := 5) sc_covers.nd rfl (Or.inl rfl)) pgs_nil))))
      (pss_one (ps_ret (pe_and (pe_chain op_le op_lt (pe_ix (r := rIxT K) ix_tup (pv 2) pe_int (fun _ _ => rfl)) (pe_ix (r := rIxT K) ix_tup (pv 3) pe_int (fun _ _ => rfl)) (pe_op op_add (pe_ix (r := rIxT K) ix_tup (pv 2) pe_int (fun _ _ => rfl)) (pv 4))) (pe_one (pe_chain op_le op_lt (pe_ix (r := rIxT K) ix_tup (pv 2) pe_int (fun _ _ => rfl)) (pe_ix (r := rIxT K) ix_tup (pv 3) pe_int (fun _ _ => rfl)) (pe_op op_add (pe_ix (r := rIxT K) ix_tup (pv 2) pe_int (fun _ _ => rfl)) (pv 5)))))))), ?_⟩
    unfold covB Brick.lo Brick.hi at q
    cases l
    all_goals
      simp only [Bool.false_eq_true, if_false, if_true] at q
      refine ⟨_, rfl, o, _, 2, _, rfl, rfl, ho, rfl, _, rfl, ?_⟩
      first | refine iteF ?_ | refine iteT ?_
      walk_at "rd"
      intro p1 hp1
      generalize hH1 : upd H p1 _ = H1
      obtain ⟨sm1, up1⟩ := newH hH1 hp1
      clear hH1
      have ho1 := Same.tup sm1 ho
      have ht1 := Same.tup sm1 ht
      refine ⟨p1, _, rfl, sqT up1, rfl, ?_⟩
      walk_at "rd"
      refine ⟨o, _, 0, _, rfl, rfl, ho1, rfl, _, rfl, t, _, 0, _, rfl, rfl, ht1, rfl, ?_⟩
      walk_at "rd"
      refine iteD (fun c => ?_) (fun c => ?_)
      · simp only [decide_eq_true c, Bool.true_and] at q
        refine ⟨_, rfl, o, _, 0, _, rfl, rfl, ho1, rfl, ?_⟩
        walk_at "rd"
        refine iteD (fun c => ?_) (fun c => ?_)
        · simp only [decide_eq_true c, Bool.true_and] at q
          refine ⟨_, rfl, o, _, 1, _, rfl, rfl, ho1, rfl, _, rfl, t, _, 1, _, rfl, rfl, ht1, rfl, ?_⟩
          walk_at "rd"
          refine iteD (fun c => ?_) (fun c => ?_)
          · simp only [decide_eq_true c, Bool.true_and] at q
            refine ⟨_, rfl, o, _, 1, _, rfl, rfl, ho1, rfl, ?_⟩
            walk_at "rd"
            exact q _ sm1
          · simp only [decide_eq_false c, Bool.false_and] at q
            exact q _ sm1
        · simp only [decide_eq_false c, Bool.false_and] at q
          exact q _ sm1
      · simp only [decide_eq_false c, Bool.false_and] at q
        exact ⟨_, rfl, iteF (q _ sm1)⟩
theorem H_often (p : Pl K mg "often" s_often) (B : Bi mg) (h_covers : Has P w K mg base CX0 1 "covers" ["first", "second", "brick", "cell"] (SpCovers K)) : Has P w K mg base CX0 2 "often" ["first", "second", "bricks", "cell"] (SpOften K) := by
  refine p.mk0 sc_often (fun _ _ _ _ _ _ us hl => match us, hl with | [_, _, _, _], _ => rfl) (fun vs H Q E h => ?_) (fun f cdv A outer s H vs Q E hr h => ?_)
  · cases h; rfl
  · obtain @⟨l, t, ps, c, fi, se, _, _, _, hl, hb, hn, ht, q⟩ := h
    refine ⟨_, (pss_one (ps_ret (pe_callB (r := rLen2 K) call_len_seq (by rfl) B.len PySem.boot_len (pa_cons (pe_lc (own := [("brick", 4)]) (by rfl) sc_often.nd (pi_list (pv 2)) (blkOk_by (own := [("brick", 4)]) (N := ["first", "second", "bricks", "cell", "brick"]) (sc := defScope s_often) (by decide +kernel)) (fun _ _ _ _ _ => (pg_name (i := 4) sc_often.nd rfl (Or.inl rfl))) (fun _ _ _ _ _ => pts_one (pt_val (pe_fn h_covers (hr.mono (by decide)) pass0 (pa_cons (pv 0) (pa_cons (pv 1) (pa_cons (pv 4) (pa_cons (pv 3) pa_nil))))))) (fun _ _ _ _ _ => (pv 4))) pa_nil)))), ?_⟩
    refine ⟨_, rfl, l, rfl, ⟨_, hl⟩, fun D hD => ?_⟩
    refine lc_list (K := K) (a := l) (xs := refs ps) (fun i H' => Same H H' ∧ ∃ vs, H' D = some (.lst vs) ∧ vs.length = oftN fi se ((vals ps).take i) c) ⟨same_upd hD, [], upd_same, rfl⟩ (fun i H' _ ⟨sm, _⟩ => sm.seq hl) ?_ ?_
    · rintro i v H' hi ⟨sm, vs, eD, ev⟩
      obtain ⟨pb, hpb, rfl, hm⟩ := refs_at hi
      have hlt : i < ps.length := (List.getElem?_eq_some_iff.mp hpb).1
      have et : (vals ps).take (i + 1) = (vals ps).take i ++ [pb.2] := by
        unfold vals
        rw [List.take_add_one, List.getElem?_map, hpb]
        rfl
      have eo : oftN fi se ((vals ps).take (i + 1)) c = oftN fi se ((vals ps).take i) c + if covB fi se c pb.2 then 1 else 0 := by
        rw [et]
        unfold oftN
        rw [List.filter_append, List.length_append, List.filter_cons]
        split <;> rfl
      have hle : oftN fi se ((vals ps).take i) c ≤ ps.length := by
        unfold oftN
        refine Nat.le_trans (List.length_filter_le _ _) ?_
        rw [List.length_take, vals_len]
        exact Nat.min_le_right _ _
      refine ⟨rfl, ?_⟩
      walk_at "rd"
      refine .mk (Same.tup sm (hb pb hm)) (Same.tup sm ht) fun H2 sm2 => ⟨_, rfl, iteB (fun c => ?_) (fun c => ?_)⟩
      · rw [c, if_pos rfl] at eo
        refine ⟨_, rfl, vs, sm2 _ _ eD, ?_, ?_, vs ++ [.ref pb.1], upd_same, ?_⟩
        · rw [ev]
          exact Nat.lt_of_le_of_lt hle (Nat.lt_of_le_of_lt hn (by decide))
        · exact fun b1 o e => by rw [upd_ne (ne_of_none e hD)]; exact sm2 _ _ (sm b1 o e)
        · rw [List.length_append, ev, eo]
          rfl
      · rw [c] at eo
        exact ⟨sm.trans sm2, vs, sm2 _ _ eD, by rw [ev, eo]; rfl⟩
    · rintro H' ⟨sm, vs, eD, ev⟩
      rw [refs_len, ← vals_len ps, List.take_length] at ev
      refine ⟨D, vs, rfl, .inl (sqL eD), ?_⟩
      rw [ev]
      exact q _ sm
end
end BF

/-! ### answers.py: the cells of a brick; what are cells -/
namespace BF
open PySem PySem.Spec PyProof.Rows L2
def CeAll (H : Hp) (cs : List (Addr × (Int × Int))) : Prop := ∀ q ∈ cs, H q.1 = some (.tup (cellV q.2))
theorem CeAll.mono {H H' : Hp} {cs : List (Addr × (Int × Int))} (h : CeAll H cs) (sm : Same H H') : CeAll H' cs := fun q hq => sm _ _ (h q hq)
inductive SpCells (K : PySem.W.Frag) : Sp where
  | mk {o : Addr} {b : Brick} {f s : Int} {H : Hp} {Q : VK} {E : XK} (ho : SqT K H o b.vs) (h1 : 0 ≤ b.lo f s ∧ b.lo f s ≤ 1000) (h2 : 0 ≤ b.hi f s ∧ b.hi f s ≤ 1000)
      (q : ∀ p H' cs, Same H H' → H' p = some (.lst (refs cs)) → CeAll H' cs → vals cs = cellsL f s b → Q (.ref p) H') : SpCells K [.int f, .int s, .ref o] H Q E
inductive SpIsCell : Sp where
  | mk {t : Addr} {c : Int × Int} {L W : Int} {H : Hp} {Q : VK} {E : XK} (ht : H t = some (.tup (cellV c))) (q : Q (.bl (cellB L W c)) H) : SpIsCell [.int L, .int W, .ref t] H Q E
inductive CellsI (fi se : Int) (o F : Addr) (lo hi x y : Int) (H : Hp) (i : Nat) : L2.St → Hp → Prop where
  | mk {H' : Hp} {z u : Option V} {cs : List (Addr × (Int × Int))} (sm : Same H H') (hF : H' F = some (.lst (refs cs))) (hc : CeAll H' cs) (hv : vals cs = colsL x y i hi.toNat) : CellsI fi se o F lo hi x y H i [some (.int fi), some (.int se), some (.ref o), some (.int lo), some (.int hi), some (.ref F), z, u] H'
theorem ce_add {H : Hp} {cs : List (Addr × (Int × Int))} {p : Addr} {c : Int × Int} (h : CeAll H cs) (hp : H p = some (.tup (cellV c))) : CeAll H (cs ++ [(p, c)]) := fun q hq => by
  rcases List.mem_append.mp hq with a | a
  · exact h q a
  · obtain rfl := List.mem_singleton.mp a
    exact hp
theorem mul_add_le {i n : Nat} (h1 : i < 1000) (h2 : n ≤ 1000) : i * n + n ≤ 1000000 := by
  have := Nat.mul_le_mul (show i + 1 ≤ 1000 by omega) h2
  rw [Nat.succ_mul] at this
  exact this
theorem refs_app {α : Type} (a b : List (Addr × α)) : refs (a ++ b) = refs a ++ refs b := List.map_append
theorem vals_app {α : Type} (a b : List (Addr × α)) : vals (a ++ b) = vals a ++ vals b := List.map_append
section
variable {P : Program} {w : World} {K : PySem.W.Frag} {mg : Str → Option Value} {base : Heap}
theorem H_is_cell (p : Pl K mg "is_cell" s_is_cell) (B : Bi mg) (h_is_number : Has P w K mg base CX0 1 "is_number" ["thing"] (SpIsNumber K)) : Has P w K mg base CX0 2 "is_cell" ["length", "width", "thing"] SpIsCell := by
  refine p.mk0 sc_is_cell (fun _ _ _ _ _ _ us hl => match us, hl with | [_, _, _], _ => rfl) (fun vs H Q E h => ?_) (fun f cdv A outer s H vs Q E hr h => ?_)
  · cases h; rfl
  · obtain @⟨t, ⟨c1, c2⟩, L, W, _, _, _, ht, q⟩ := h
    refine ⟨_, (pss_cons (ps_if (PW.pt (pw_or (pt_not (pt_val (pe_callB (r := rIsi K) call_isi (by rfl) B.isinstance (by decide +kernel) (pa_cons (pv 2) (pa_cons (pe_bltn (v := .ty "tuple") (by rfl) B.tuple (by decide +kernel) rfl) pa_nil))))) (pw_or (pt_cmpR op_ne (pe_callB (r := rLen2 K) call_len_seq (by rfl) B.len PySem.boot_len (pa_cons (pv 2) pa_nil)) pe_int (nomark _)) (pw_or (pt_not (pt_val (pe_fn h_is_number (hr.mono (by decide)) pass0 (pa_cons (pe_ix (r := rIxT K) ix_tup (pv 2) pe_int (fun _ _ => rfl)) pa_nil)))) (pw_or1 (pt_not (pt_val (pe_fn h_is_number (hr.mono (by decide)) pass0 (pa_cons (pe_ix (r := rIxT K) ix_tup (pv 2) pe_int (fun _ _ => rfl)) pa_nil))))))))) (pss_one (ps_ret pe_bl)) pss_nil)
      (pss_one (ps_ret (pe_and (pe_chain op_le op_lt pe_int (pe_ix (r := rIxT K) ix_tup (pv 2) pe_int (fun _ _ => rfl)) (pv 0)) (pe_one (pe_chain op_le op_lt pe_int (pe_ix (r := rIxT K) ix_tup (pv 2) pe_int (fun _ _ => rfl)) (pv 1))))))), ?_⟩
    unfold cellB at q
    refine ⟨_, rfl, _, _, _, _, true, rfl, .ty "tuple", .base (.tup ht), kit_ty (by decide +kernel), true, rfl, iteF ?_⟩
    refine ⟨_, rfl, t, _, rfl, .inr (sqT ht), rfl, _, rfl, iteNe (fun z => absurd rfl z) (fun _ => ?_)⟩
    refine ⟨_, rfl, t, _, 0, _, rfl, rfl, sqT ht, rfl, num_int ⟨true, rfl, iteF ?_⟩⟩
    refine ⟨_, rfl, t, _, 1, _, rfl, rfl, sqT ht, rfl, num_int ⟨true, rfl, iteF ?_⟩⟩
    refine ⟨_, rfl, t, _, 0, _, rfl, rfl, sqT ht, rfl, ?_⟩
    walk_at "rd"
    refine iteD (fun c => ?_) (fun c => ?_)
    · simp only [decide_eq_true c, Bool.true_and] at q
      walk_at "rd"
      refine iteD (fun c => ?_) (fun c => ?_)
      · simp only [decide_eq_true c, Bool.true_and] at q
        refine ⟨_, rfl, t, _, 1, _, rfl, rfl, sqT ht, rfl, ?_⟩
        walk_at "rd"
        refine iteD (fun c => ?_) (fun c => ?_)
        · simp only [decide_eq_true c, Bool.true_and] at q
          walk_at "rd"
          exact q
        · simp only [decide_eq_false c, Bool.false_and] at q
          exact q
      · simp only [decide_eq_false c, Bool.false_and] at q
        exact q
    · simp only [decide_eq_false c, Bool.false_and] at q
      exact ⟨_, rfl, iteF q⟩

end
end BF

/-! ### laying.py: floors that can be laid -/
namespace BF
open PySem PySem.Spec PyProof.Rows L2
/-- nothing bars -/
def Free (L W f s : Int) : Prop := strL L W f s = [] ∧ shoL L W f s = []
noncomputable def planP (L W f s : Int) : Int × Int :=
  if L % f = 0 ∧ W % s = 0 then (L, W) else if L % s = 0 ∧ W % f = 0 then (0, 0) else if L % f = 0 then (L, ((parts W f s).getD (0, 0)).2 * s) else (((parts L f s).getD (0, 0)).1 * f, W)
noncomputable def brickP (L W f s : Int) (c : Int × Int) : Brick :=
  if c.1 < (planP L W f s).1 ∧ c.2 < (planP L W f s).2 then ⟨c.1 / f * f, c.2 / s * s, true⟩ else
    ⟨(if (planP L W f s).2 = W then (planP L W f s).1 else 0) + (c.1 - (if (planP L W f s).2 = W then (planP L W f s).1 else 0)) / s * s, (if (planP L W f s).1 = L then (planP L W f s).2 else 0) + (c.2 - (if (planP L W f s).1 = L then (planP L W f s).2 else 0)) / f * f, decide (f = s)⟩
inductive SpLaid : Sp where
  | mk {L W f s : Int} {H : Hp} {Q : VK} {E : XK} (hL : Sz L) (hW : Sz W) (hf : Sz f) (hs : Sz s) (fr : Free L W f s) (q : ∀ H', Same H H' → Q .non H') : SpLaid [.int L, .int W, .int f, .int s] H Q E
inductive SpPlan : Sp where
  | mk {L W f s : Int} {H : Hp} {Q : VK} {E : XK} (hL : Sz L) (hW : Sz W) (hf : Sz f) (hs : Sz s) (fr : Free L W f s) (q : ∀ p H', Same H H' → H' p = some (.tup [.int (planP L W f s).1, .int (planP L W f s).2]) → Q (.ref p) H') : SpPlan [.int L, .int W, .int f, .int s] H Q E
section
variable {P : Program} {w : World} {K : PySem.W.Frag} {mg : Str → Option Value} {base : Heap}
theorem H_check_laid (p : Pl K mg "check_laid" s_check_laid) (h_check_sizes : Has P w K mg base CX0 2 "check_sizes" ["some"] (SpCheckSizes K)) (h_what_bars : Has P w K mg base CX0 3 "what_bars" ["length", "width", "first", "second"] SpBars) :
    Has P w K mg base CX0 4 "check_laid" ["length", "width", "first", "second"] SpLaid := by
  refine p.mk0 sc_check_laid (fun _ _ _ _ _ _ us hl => match us, hl with | [_, _, _, _], _ => rfl) (fun vs H Q E h => ?_) (fun f cdv A outer s H vs Q E hr h => ?_)
  · cases h; rfl
  · obtain @⟨L, W, fi, se, _, _, _, hL, hW, hf, hs, fr, q⟩ := h
    refine ⟨_, (pss_cons (ps_expr (pe_fn h_check_sizes (hr.mono (by decide)) pass0 (pa_cons (pe_lst (pa_cons (pv 0) (pa_cons (pv 1) (pa_cons (pv 2) (pa_cons (pv 3) pa_nil))))) pa_nil)))
      (pss_one (ps_if (pt_cmpR (r := rNeD K) (op_neD hr.units) (pe_fn h_what_bars (hr.mono (by decide)) pass0 (pa_cons (pv 0) (pa_cons (pv 1) (pa_cons (pv 2) (pa_cons (pv 3) pa_nil))))) (pe_tup (pa_cons (pe_lst pa_nil) (pa_cons (pe_lst pa_nil) pa_nil))) (nomark _)) (pss_one ps_never) pss_nil))), ?_⟩
    walk_at "rd"
    intro l1 hl1
    generalize hH1 : upd H l1 _ = H1
    obtain ⟨sm1, up1⟩ : Same H H1 ∧ H1 l1 = some (.lst ([L, W, fi, se].map V.int)) := newH hH1 hl1
    clear hH1
    refine .mk (ns := [L, W, fi, se]) (sqL up1) ?_ ?_
    · intro n hn
      have e : n = L ∨ n = W ∨ n = fi ∨ n = se := by simpa using hn
      rcases e with rfl | rfl | rfl | rfl
      · exact hL.pos
      · exact hW.pos
      · exact hf.pos
      · exact hs.pos
    walk_at "rd"
    refine .mk hL hW hf hs fun t p1 p2 H2 sm2 ht hp1 hp2 => ?_
    rw [fr.1] at hp1
    rw [fr.2] at hp2
    walk_at "rd"
    intro l3 hl3
    generalize hH3 : upd H2 l3 _ = H3
    obtain ⟨sm3, up3⟩ : Same H2 H3 ∧ H3 l3 = some (.lst []) := newH hH3 hl3
    clear hH3
    walk_at "rd"
    intro l4 hl4
    generalize hH4 : upd H3 l4 _ = H4
    obtain ⟨sm4, up4⟩ : Same H3 H4 ∧ H4 l4 = some (.lst []) := newH hH4 hl4
    clear hH4
    walk_at "rd"
    intro t5 ht5
    generalize hH5 : upd H4 t5 _ = H5
    obtain ⟨sm5, up5⟩ : Same H4 H5 ∧ H5 t5 = some (.tup [.ref l3, .ref l4]) := newH hH5 ht5
    clear hH5
    have s45 := sm4.trans sm5
    have s25 := sm3.trans s45
    refine ⟨.tuple [.list [], .list []], .tuple [.list [], .list []], .tup (sqT (s25 _ _ ht)) (.cons (.lst (sqL (s25 _ _ hp1)) .nil) (.cons (.lst (sqL (s25 _ _ hp2)) .nil) .nil)), .tup (sqT up5) (.cons (.lst (sqL (s45 _ _ up3)) .nil) (.cons (.lst (sqL (sm5 _ _ up4)) .nil) .nil)), rfl, rfl, ?_⟩
    rw [SeqAt.eqv_refl]
    · exact ⟨_, rfl, iteF (q _ (sm1.trans (sm2.trans s25)))⟩
    · rfl
theorem free_parts {L W f s : Int} (fr : Free L W f s) (hf : 0 < f) (hs : 0 < s) : (∃ m n, parts L f s = some (m, n) ∧ Rep L f s m n) ∧ ∃ m n, parts W f s = some (m, n) ∧ Rep W f s m n := by
  have h := fr.2
  unfold shoL two shoB at h
  have one : ∀ x, (parts x f s).isNone = false → ∃ m n, parts x f s = some (m, n) ∧ Rep x f s m n := by
    intro x hx
    have p := parts_is (s := x) hf hs
    cases e : BF.parts x f s with
    | none => rw [e] at hx; exact nomatch hx
    | some y =>
      rw [e] at p
      exact ⟨y.1, y.2, rfl, p.1⟩
  constructor
  · refine one L ?_
    cases e : (BF.parts L f s).isNone with
    | false => rfl
    | true => rw [e] at h; simp at h
  · refine one W ?_
    cases e : (BF.parts W f s).isNone with
    | false => rfl
    | true => rw [e] at h; simp at h
theorem Rep.le {x f s m n : Int} (h : Rep x f s m n) (hf : 0 < f) (hs : 0 < s) : m ≤ x ∧ n ≤ x ∧ m * f ≤ x ∧ n * s ≤ x := by
  obtain ⟨h1, h2, h3⟩ := h
  have a := Int.mul_le_mul_of_nonneg_left (show (1 : Int) ≤ f by omega) h1
  have b := Int.mul_le_mul_of_nonneg_left (show (1 : Int) ≤ s by omega) h2
  omega
theorem H_plan (p : Pl K mg "plan" s_plan) (h_parts_of : Has P w K mg base CX0 2 "parts_of" ["size", "first", "second"] SpParts) : Has P w K mg base CX0 3 "plan" ["length", "width", "first", "second"] SpPlan := by
  refine p.mk0 sc_plan (fun _ _ _ _ _ _ us hl => match us, hl with | [_, _, _, _], _ => rfl) (fun vs H Q E h => ?_) (fun f cdv A outer s H vs Q E hr h => ?_)
  · cases h; rfl
  · obtain @⟨L, W, fi, se, _, _, _, hL, hW, hf, hs, fr, q⟩ := h
    refine ⟨_, (pss_cons (ps_if (PW.pt (pw_and (pt_cmpR op_eq (pe_op op_mod (pv 0) (pv 2)) pe_int (nomark _)) (pw_and1 (pt_cmpR op_eq (pe_op op_mod (pv 1) (pv 3)) pe_int (nomark _))))) (pss_one (ps_ret (pe_tup (pa_cons (pv 0) (pa_cons (pv 1) pa_nil))))) pss_nil)
      (pss_cons (ps_if (PW.pt (pw_and (pt_cmpR op_eq (pe_op op_mod (pv 0) (pv 3)) pe_int (nomark _)) (pw_and1 (pt_cmpR op_eq (pe_op op_mod (pv 1) (pv 2)) pe_int (nomark _))))) (pss_one (ps_ret (pe_tup (pa_cons pe_int (pa_cons pe_int pa_nil))))) pss_nil)
      (pss_cons (ps_if (pt_cmpR op_eq (pe_op op_mod (pv 0) (pv 2)) pe_int (nomark _)) (pss_one (ps_ret (pe_tup (pa_cons (pv 0) (pa_cons (pe_op op_mulX (pe_ix (r := rIxT K) ix_tup (pe_fn h_parts_of (hr.mono (by decide)) pass0 (pa_cons (pv 1) (pa_cons (pv 2) (pa_cons (pv 3) pa_nil)))) pe_int (fun _ _ => rfl)) (pv 3)) pa_nil))))) pss_nil)
      (pss_one (ps_ret (pe_tup (pa_cons (pe_op op_mulX (pe_ix (r := rIxT K) ix_tup (pe_fn h_parts_of (hr.mono (by decide)) pass0 (pa_cons (pv 0) (pa_cons (pv 2) (pa_cons (pv 3) pa_nil)))) pe_int (fun _ _ => rfl)) (pv 2)) (pa_cons (pv 1) pa_nil)))))))), ?_⟩
    have pf := hf.pos
    have ps := hs.pos
    obtain ⟨⟨m1, n1, e1, r1⟩, ⟨m2, n2, e2, r2⟩⟩ := free_parts fr pf ps
    have b1 := r1.le pf ps
    have b2 := r2.le pf ps
    have B1 : Bn 2000 m1 := hL.bn.of_le r1.1 b1.1
    have B2 : Bn 2000 n2 := hW.bn.of_le r2.2.1 b2.2.1
    unfold planP at q
    rw [e1, e2] at q
    simp only [Option.getD_some] at q
    have two : ∀ {A B : Prop}, A → B → True := fun _ _ => trivial
    by_cases c1 : L % fi = 0 ∧ W % se = 0
    · rw [if_pos c1] at q
      walk_at "rd"
      refine iteEq (fun _ => ?_) (fun z => absurd c1.1 z)
      walk_at "rd"
      refine iteEq (fun _ => ?_) (fun z => absurd c1.2 z)
      walk_at "rd"
      exact fun p hp => q p _ (same_upd hp) upd_same
    rw [if_neg c1] at q
    refine if_no (H' := H) (fun r hr0 => ?_) ?_
    · walk_at "rd"
      refine iteEq (fun d1 => ?_) (fun z => hr0)
      walk_at "rd"
      rw [show decide (V.int (W % se) = V.int 0) = false from decide_eq_false fun z => c1 ⟨d1, V.int.inj z⟩]
      exact hr0
    by_cases c2 : L % se = 0 ∧ W % fi = 0
    · rw [if_pos c2] at q
      walk_at "rd"
      refine iteEq (fun _ => ?_) (fun z => absurd c2.1 z)
      walk_at "rd"
      refine iteEq (fun _ => ?_) (fun z => absurd c2.2 z)
      walk_at "rd"
      exact fun p hp => q p _ (same_upd hp) upd_same
    rw [if_neg c2] at q
    refine if_no (H' := H) (fun r hr0 => ?_) ?_
    · walk_at "rd"
      refine iteEq (fun d1 => ?_) (fun z => hr0)
      walk_at "rd"
      rw [show decide (V.int (W % fi) = V.int 0) = false from decide_eq_false fun z => c2 ⟨d1, V.int.inj z⟩]
      exact hr0
    walk_at "rd"
    refine iteEq (fun d1 => ?_) (fun d1 => ?_)
    · rw [if_pos d1] at q
      walk_at "rd"
      refine .mk hW hf hs (tell_of fun v H5 sm5 tv => ?_)
      rw [e2] at tv
      obtain ⟨p5, rfl, hp5⟩ := tv
      refine ⟨p5, _, 1, _, rfl, rfl, sqT hp5, rfl, ?_⟩
      walk_at "rd"
      exact fun p hp => q p _ (sm5.trans (same_upd hp)) upd_same
    · rw [if_neg d1] at q
      walk_at "rd"
      refine .mk hL hf hs (tell_of fun v H5 sm5 tv => ?_)
      rw [e1] at tv
      obtain ⟨p5, rfl, hp5⟩ := tv
      refine ⟨p5, _, 0, _, rfl, rfl, sqT hp5, rfl, ?_⟩
      walk_at "rd"
      exact fun p hp => q p _ (sm5.trans (same_upd hp)) upd_same
theorem plan_in {L W f s : Int} (hL : 0 < L) (hW : 0 < W) (hf : 0 < f) (hs : 0 < s) (fr : Free L W f s) : (0 ≤ (planP L W f s).1 ∧ (planP L W f s).1 ≤ L) ∧ 0 ≤ (planP L W f s).2 ∧ (planP L W f s).2 ≤ W := by
  obtain ⟨⟨m1, n1, e1, r1⟩, ⟨m2, n2, e2, r2⟩⟩ := free_parts fr hf hs
  have b1 := r1.le hf hs
  have b2 := r2.le hf hs
  unfold planP
  rw [e1, e2]
  simp only [Option.getD_some]
  have z1 := Int.mul_nonneg r1.1 (Int.le_of_lt hf)
  have z2 := Int.mul_nonneg r2.2.1 (Int.le_of_lt hs)
  split
  · exact ⟨⟨by omega, by omega⟩, by omega, by omega⟩
  split
  · exact ⟨⟨by omega, by omega⟩, by omega, by omega⟩
  split
  · exact ⟨⟨by omega, by omega⟩, z2, b2.2.2.2⟩
  · exact ⟨⟨z1, b1.2.2.1⟩, by omega, by omega⟩
inductive SpBrickOn : Sp where
  | mk {t : Addr} {c : Int × Int} {L W f s : Int} {H : Hp} {Q : VK} {E : XK} (hL : Sz L) (hW : Sz W) (hf : Sz f) (hs : Sz s) (fr : Free L W f s) (ht : H t = some (.tup (cellV c))) (hc : cellB L W c = true)
      (q : ∀ p p1 H', Same H H' → H' p = some (.tup [.ref p1, .bl (brickP L W f s c).l]) → H' p1 = some (.tup (cellV ((brickP L W f s c).x, (brickP L W f s c).y))) → Q (.ref p) H') : SpBrickOn [.int L, .int W, .int f, .int s, .ref t] H Q E
theorem H_brick_on (p : Pl K mg "brick_on" s_brick_on) (h_check_laid : Has P w K mg base CX0 4 "check_laid" ["length", "width", "first", "second"] SpLaid) (h_is_cell : Has P w K mg base CX0 2 "is_cell" ["length", "width", "thing"] SpIsCell) (h_plan : Has P w K mg base CX0 3 "plan" ["length", "width", "first", "second"] SpPlan) :
    Has P w K mg base CX0 5 "brick_on" ["length", "width", "first", "second", "cell"] SpBrickOn := by
  refine p.mk0 sc_brick_on (fun _ _ _ _ _ _ us hl => match us, hl with | [_, _, _, _, _], _ => rfl) (fun vs H Q E h => ?_) (fun f cdv A outer s H vs Q E hr h => ?_)
  · cases h; rfl
  · obtain @⟨t, ⟨c1, c2⟩, L, W, fi, se, _, _, _, hL, hW, hf, hs, fr, ht, hc, q⟩ := h
    refine ⟨_, (pss_cons (ps_expr (pe_fn h_check_laid (hr.mono (by decide)) pass0 (pa_cons (pv 0) (pa_cons (pv 1) (pa_cons (pv 2) (pa_cons (pv 3) pa_nil))))))
      (pss_cons (ps_if (pt_not (pt_val (pe_fn h_is_cell (hr.mono (by decide)) pass0 (pa_cons (pv 0) (pa_cons (pv 1) (pa_cons (pv 4) pa_nil)))))) (pss_one ps_never) pss_nil)
      (pss_cons (ps_asg (pe_fn h_plan (hr.mono (by decide)) pass0 (pa_cons (pv 0) (pa_cons (pv 1) (pa_cons (pv 2) (pa_cons (pv 3) pa_nil))))) (pg_tup (by rfl) (pgs_cons (pg_name (i := 5) sc_brick_on.nd rfl (Or.inl rfl)) (pgs_cons (pg_name (i := 6) sc_brick_on.nd rfl (Or.inl rfl)) pgs_nil))))
      (pss_cons (ps_if (PW.pt (pw_and (pt_cmpR op_lt (pe_ix (r := rIxT K) ix_tup (pv 4) pe_int (fun _ _ => rfl)) (pv 5) (nomark _)) (pw_and1 (pt_cmpR op_lt (pe_ix (r := rIxT K) ix_tup (pv 4) pe_int (fun _ _ => rfl)) (pv 6) (nomark _))))) (pss_one (ps_ret (pe_tup (pa_cons (pe_tup (pa_cons (pe_op op_mulX (pe_op op_fdivW (pe_ix (r := rIxT K) ix_tup (pv 4) pe_int (fun _ _ => rfl)) (pv 2)) (pv 2)) (pa_cons (pe_op op_mulX (pe_op op_fdivW (pe_ix (r := rIxT K) ix_tup (pv 4) pe_int (fun _ _ => rfl)) (pv 3)) (pv 3)) pa_nil))) (pa_cons pe_bl pa_nil))))) pss_nil)
      (pss_cons (ps_par (i := 7) (j := 8) (by rfl) sc_brick_on.nd rfl rfl (by decide) rfl rfl (pa_cons (pe_ifExp (pt_cmpR op_eq (pv 6) (pv 1) (nomark _)) (pv 5) pe_int) (pa_cons (pe_ifExp (pt_cmpR op_eq (pv 5) (pv 0) (nomark _)) (pv 6) pe_int) pa_nil)) (by rfl))
      (pss_cons (ps_set (i := 9) sc_brick_on.nd rfl (Or.inl rfl) (pe_tup (pa_cons (pe_op op_add (pv 7) (pe_op op_mulX (pe_op op_fdivW (pe_op op_sub (pe_ix (r := rIxT K) ix_tup (pv 4) pe_int (fun _ _ => rfl)) (pv 7)) (pv 3)) (pv 3))) (pa_cons (pe_op op_add (pv 8) (pe_op op_mulX (pe_op op_fdivW (pe_op op_sub (pe_ix (r := rIxT K) ix_tup (pv 4) pe_int (fun _ _ => rfl)) (pv 8)) (pv 2)) (pv 2))) pa_nil))))
      (pss_one (ps_ret (pe_tup (pa_cons (pv 9) (pa_cons (pe_cmpR op_eq (pv 2) (pv 3) (nomark _)) pa_nil))))))))))), ?_⟩
    have pin := plan_in hL.pos hW.pos hf.pos hs.pos fr
    walk_at "rd"
    refine .mk hL hW hf hs fr fun H1 sm1 => ?_
    walk_at "rd"
    refine .mk (sm1 _ _ ht) ?_
    rw [hc]
    refine ⟨_, rfl, iteF ?_⟩
    walk_at "rd"
    refine .mk hL hW hf hs fr fun p2 H2 sm2 hp2 => ?_
    unfold brickP at q
    generalize planP L W fi se = pl at hp2 pin q
    obtain ⟨al, up⟩ := pl
    dsimp only at hp2 pin q
    have hc2 := hc
    unfold cellB at hc2
    simp only [Bool.and_eq_true, decide_eq_true_eq] at hc2
    refine ⟨p2, _, rfl, sqT hp2, rfl, ?_⟩
    have s02 := sm1.trans sm2
    have ht2 := sqT (K := K) (s02 _ _ ht)
    have Bc1 : Bn 2000 c1 := hL.bn.of_le (by omega) (by omega)
    have Bc2 : Bn 2000 c2 := hW.bn.of_le (by omega) (by omega)
    have Ba : Bn 2000 al := hL.bn.of_le (by omega) (by omega)
    have Bu : Bn 2000 up := hW.bn.of_le (by omega) (by omega)
    refine ⟨_, _, rfl, _, _, rfl, rfl, ?_⟩
    by_cases cc : c1 < al ∧ c2 < up
    · simp only [if_pos cc] at q
      refine ⟨_, rfl, t, _, 0, _, rfl, rfl, ht2, rfl, ?_⟩
      walk_at "rd"
      refine iteP cc.1 ?_
      refine ⟨_, rfl, t, _, 1, _, rfl, rfl, ht2, rfl, ?_⟩
      walk_at "rd"
      refine iteP cc.2 ?_
      refine ⟨_, rfl, t, _, 0, _, rfl, rfl, ht2, rfl, ?_⟩
      walk_at "rd"
      refine ⟨t, _, 1, _, rfl, rfl, ht2, rfl, ?_⟩
      walk_at "rd"
      intro p3 hp3
      generalize hH3 : upd H2 p3 _ = H3
      obtain ⟨sm3, up3⟩ : Same H2 H3 ∧ H3 p3 = some (.tup (cellV (c1 / fi * fi, c2 / se * se))) := newH hH3 hp3
      clear hH3
      walk_at "rd"
      exact fun p4 hp4 => q p4 p3 _ (s02.trans (sm3.trans (same_upd hp4))) upd_same (same_upd hp4 _ _ up3)
    simp only [if_neg cc] at q
    dsimp only
    refine if_no (H' := H2) (fun r hr0 => ?_) ?_
    · refine ⟨_, rfl, t, _, 0, _, rfl, rfl, ht2, rfl, ?_⟩
      walk_at "rd"
      refine iteD (fun d1 => ?_) (fun _ => hr0)
      refine ⟨_, rfl, t, _, 1, _, rfl, rfl, ht2, rfl, ?_⟩
      walk_at "rd"
      rw [show decide (c2 < up) = false from decide_eq_false fun z => cc ⟨d1, z⟩]
      exact hr0
    generalize hbe : (if up = W then al else 0) = be at q
    generalize hlo : (if al = L then up else 0) = lo at q
    have Bb : Bn 2000 be := by rw [← hbe]; split; exact Ba; exact bn0
    have Bl : Bn 2000 lo := by rw [← hlo]; split; exact Bu; exact bn0
    have ed : decide (V.int fi = V.int se) = decide (fi = se) := decide_eq_decide.mpr ⟨fun z => V.int.inj z, fun z => congrArg V.int z⟩
    by_cases h1 : up = W <;> by_cases h2 : al = L
    all_goals
      first | rw [if_pos h1] at hbe | rw [if_neg h1] at hbe
      first | rw [if_pos h2] at hlo | rw [if_neg h2] at hlo
      rw [← hbe] at Bb
      rw [← hlo] at Bl
      rw [← hbe, ← hlo] at q
      walk_at "rd"
      first | refine iteEq (fun _ => ?_) (fun z => absurd h1 z) | refine iteEq (fun z => absurd z h1) (fun _ => ?_)
      walk_at "rd"
      first | refine iteEq (fun _ => ?_) (fun z => absurd h2 z) | refine iteEq (fun z => absurd z h2) (fun _ => ?_)
      walk_at "rd"
      refine ⟨t, _, 0, _, rfl, rfl, ht2, rfl, ?_⟩
      walk_at "rd"
      refine ⟨t, _, 1, _, rfl, rfl, ht2, rfl, ?_⟩
      walk_at "rd"
      intro p3 hp3
      refine ⟨_, rfl, ?_⟩
      walk_at "rd"
      intro p4 hp4
      refine q p4 p3 _ (s02.trans ((same_upd hp3).trans (same_upd hp4))) ?_ ?_
      · rw [← ed]
        exact upd_same
      · exact same_upd hp4 _ _ upd_same
/-- how many lie -/
noncomputable def lieP (L W f s : Int) : Int := if f = s then L * W / (f * s) else (planP L W f s).1 * (planP L W f s).2 / (f * s)
inductive SpLying : Sp where
  | mk {L W f s : Int} {H : Hp} {Q : VK} {E : XK} (hL : Sz L) (hW : Sz W) (hf : Sz f) (hs : Sz s) (fr : Free L W f s) (q : ∀ H', Same H H' → Q (.int (lieP L W f s)) H') : SpLying [.int L, .int W, .int f, .int s] H Q E
inductive SpStanding : Sp where
  | mk {L W f s : Int} {H : Hp} {Q : VK} {E : XK} (hL : Sz L) (hW : Sz W) (hf : Sz f) (hs : Sz s) (fr : Free L W f s) (q : ∀ H', Same H H' → Q (.int (L * W / (f * s) - lieP L W f s)) H') : SpStanding [.int L, .int W, .int f, .int s] H Q E
theorem H_lying (p : Pl K mg "lying" s_lying) (h_check_laid : Has P w K mg base CX0 4 "check_laid" ["length", "width", "first", "second"] SpLaid) (h_plan : Has P w K mg base CX0 3 "plan" ["length", "width", "first", "second"] SpPlan) :
    Has P w K mg base CX0 5 "lying" ["length", "width", "first", "second"] SpLying := by
  refine p.mk0 sc_lying (fun _ _ _ _ _ _ us hl => match us, hl with | [_, _, _, _], _ => rfl) (fun vs H Q E h => ?_) (fun f cdv A outer s H vs Q E hr h => ?_)
  · cases h; rfl
  · obtain @⟨L, W, fi, se, _, _, _, hL, hW, hf, hs, fr, q⟩ := h
    refine ⟨_, (pss_cons (ps_expr (pe_fn h_check_laid (hr.mono (by decide)) pass0 (pa_cons (pv 0) (pa_cons (pv 1) (pa_cons (pv 2) (pa_cons (pv 3) pa_nil))))))
      (pss_cons (ps_asg (pe_fn h_plan (hr.mono (by decide)) pass0 (pa_cons (pv 0) (pa_cons (pv 1) (pa_cons (pv 2) (pa_cons (pv 3) pa_nil))))) (pg_tup (by rfl) (pgs_cons (pg_name (i := 4) sc_lying.nd rfl (Or.inl rfl)) (pgs_cons (pg_name (i := 5) sc_lying.nd rfl (Or.inl rfl)) pgs_nil))))
      (pss_cons (ps_if (pt_cmpR op_eq (pv 2) (pv 3) (nomark _)) (pss_one (ps_ret (pe_op op_fdivW (pe_op op_mulX (pv 0) (pv 1)) (pe_op op_mulX (pv 2) (pv 3))))) pss_nil)
      (pss_one (ps_ret (pe_op op_fdivW (pe_op op_mulX (pv 4) (pv 5)) (pe_op op_mulX (pv 2) (pv 3)))))))), ?_⟩
    have pin := plan_in hL.pos hW.pos hf.pos hs.pos fr
    walk_at "rd"
    refine .mk hL hW hf hs fr fun H1 sm1 => ?_
    walk_at "rd"
    refine .mk hL hW hf hs fr fun p2 H2 sm2 hp2 => ?_
    unfold lieP at q
    generalize planP L W fi se = pl at hp2 pin q
    obtain ⟨al, up⟩ := pl
    dsimp only at hp2 pin q
    refine ⟨p2, _, rfl, sqT hp2, rfl, ?_⟩
    have s02 := sm1.trans sm2
    have Ba : Bn 2000 al := hL.bn.of_le (by omega) (by omega)
    have Bu : Bn 2000 up := hW.bn.of_le (by omega) (by omega)
    have pfs : 0 < fi * se := Int.mul_pos hf.pos hs.pos
    refine ⟨_, _, rfl, _, _, rfl, rfl, ?_⟩
    walk_at "rd"
    refine iteEq (fun c => ?_) (fun c => ?_)
    · rw [if_pos c] at q
      walk_at "rd"
      exact q _ s02
    · rw [if_neg c] at q
      walk_at "rd"
      exact q _ s02
theorem H_standing (p : Pl K mg "standing" s_standing) (h_lying : Has P w K mg base CX0 5 "lying" ["length", "width", "first", "second"] SpLying) : Has P w K mg base CX0 6 "standing" ["length", "width", "first", "second"] SpStanding := by
  refine p.mk0 sc_standing (fun _ _ _ _ _ _ us hl => match us, hl with | [_, _, _, _], _ => rfl) (fun vs H Q E h => ?_) (fun f cdv A outer s H vs Q E hr h => ?_)
  · cases h; rfl
  · obtain @⟨L, W, fi, se, _, _, _, hL, hW, hf, hs, fr, q⟩ := h
    refine ⟨_, (pss_cons (ps_set (i := 4) sc_standing.nd rfl (Or.inl rfl) (pe_fn h_lying (hr.mono (by decide)) pass0 (pa_cons (pv 0) (pa_cons (pv 1) (pa_cons (pv 2) (pa_cons (pv 3) pa_nil))))))
      (pss_one (ps_ret (pe_op op_sub (pe_op op_fdivW (pe_op op_mulX (pv 0) (pv 1)) (pe_op op_mulX (pv 2) (pv 3))) (pv 4))))), ?_⟩
    have pfs : 0 < fi * se := Int.mul_pos hf.pos hs.pos
    walk_at "rd"
    refine .mk hL hW hf hs fr fun H1 sm1 => ?_
    walk_at "rd"
    exact q _ sm1
end
end BF

/-! ### what are no sizes is refused -/
namespace BF
open PySem PySem.Spec PyProof.Rows L2
/-- a thing and its type -/
inductive Kd (H : Hp) : V → String → Prop where
  | int (n : Int) : Kd H (.int n) "int"
  | bl (b : Bool) : Kd H (.bl b) "bool"
  | non : Kd H .non "NoneType"
  | str (x : Str) : Kd H (.str x) "str"
  | lst {a : Addr} {xs : List V} (h : H a = some (.lst xs)) : Kd H (.ref a) "list"
  | tup {a : Addr} {xs : List V} (h : H a = some (.tup xs)) : Kd H (.ref a) "tuple"
  | dct {a : Addr} {kvs : List (List Key × V)} (h : H a = some (.dT kvs)) : Kd H (.ref a) "dict"
theorem Kd.mono {H H' : Hp} {v : V} {T : String} (h : Kd H v T) (sm : Same H H') : Kd H' v T := by
  cases h with
  | int n => exact .int n
  | bl b => exact .bl b
  | non => exact .non
  | str x => exact .str x
  | lst h => exact .lst (sm _ _ h)
  | tup h => exact .tup (sm _ _ h)
  | dct h => exact .dct (sm _ _ h)
theorem Kd.ty {K : PySem.W.Frag} {H : Hp} {v : V} {T : String} (h : Kd H v T) : TyX K H v (.type T) := by
  cases h with
  | int n => exact .base (.int n)
  | bl b => exact .base (.bl b)
  | non => exact .base .non
  | str x => exact .base (.str x)
  | lst h => exact .base (.lst h)
  | tup h => exact .base (.tup h)
  | dct h => exact .base (.dT h)
theorem Kd.kit {H : Hp} {v : V} {T : String} (h : Kd H v T) : (∃ i b, kitB T "int" = some i ∧ kitB T "bool" = some b ∧ (i && !b) = decide (T = "int")) ∧ kitB T "tuple" = some (decide (T = "tuple")) ∧ kitB T "list" = some (decide (T = "list")) ∧ kitB T "bool" = some (decide (T = "bool")) := by
  cases h with
  | int n => exact ⟨⟨true, false, by decide +kernel, by decide +kernel, by decide +kernel⟩, by decide +kernel, by decide +kernel, by decide +kernel⟩
  | bl b => exact ⟨⟨true, true, by decide +kernel, by decide +kernel, by decide +kernel⟩, by decide +kernel, by decide +kernel, by decide +kernel⟩
  | non => exact ⟨⟨false, false, by decide +kernel, by decide +kernel, by decide +kernel⟩, by decide +kernel, by decide +kernel, by decide +kernel⟩
  | str x => exact ⟨⟨false, false, by decide +kernel, by decide +kernel, by decide +kernel⟩, by decide +kernel, by decide +kernel, by decide +kernel⟩
  | lst h => exact ⟨⟨false, false, by decide +kernel, by decide +kernel, by decide +kernel⟩, by decide +kernel, by decide +kernel, by decide +kernel⟩
  | tup h => exact ⟨⟨false, false, by decide +kernel, by decide +kernel, by decide +kernel⟩, by decide +kernel, by decide +kernel, by decide +kernel⟩
  | dct h => exact ⟨⟨false, false, by decide +kernel, by decide +kernel, by decide +kernel⟩, by decide +kernel, by decide +kernel, by decide +kernel⟩
theorem kd_num {K : PySem.W.Frag} {H : Hp} {v : V} {T : String} {Q : VK} {E : XK} (h : Kd H v T) (q : Q (.bl (decide (T = "int"))) H) : SpIsNumber K [v] H Q E := by
  obtain ⟨⟨i, b, h1, h2, h3⟩, _⟩ := h.kit
  refine .mk h.ty h1 h2 ?_
  rw [h3]
  exact q
inductive BadS (H : Hp) : V → Prop where
  | low {n : Int} (h : n < 1) : BadS H (.int n)
  | kd {v : V} {T : String} (h : Kd H v T) (hn : T ≠ "int") : BadS H v
theorem BadS.mono {H H' : Hp} {v : V} (h : BadS H v) (sm : Same H H') : BadS H' v := by
  cases h with
  | low h => exact .low h
  | kd h hn => exact .kd (h.mono sm) hn
/-- the first that is no size -/
inductive BadL (H : Hp) : List V → Prop where
  | here {v : V} {xs : List V} (h : BadS H v) : BadL H (v :: xs)
  | next {n : Int} {xs : List V} (h0 : 0 < n) (h : BadL H xs) : BadL H (.int n :: xs)
theorem BadL.mono {H H' : Hp} {xs : List V} (h : BadL H xs) (sm : Same H H') : BadL H' xs := by
  induction h with
  | here h => exact .here (h.mono sm)
  | next h0 _ ih => exact .next h0 ih
inductive SpCheckX (K : PySem.W.Frag) : Sp where
  | mk {a : Addr} {xs : List V} {H : Hp} {Q : VK} {E : XK} (hS : H a = some (.lst xs)) (hb : BadL H xs) (q : E (.ref (er K .size)) none H) : SpCheckX K [.ref a] H Q E
/-- n sizes, one of them bad; m more things -/
inductive SpSz (K : PySem.W.Frag) (n m : Nat) : Sp where
  | mk {xs ys : List V} {H : Hp} {Q : VK} {E : XK} (hx : xs.length = n) (hy : ys.length = m) (hb : BadL H xs) (q : ∀ H', Same H H' → E (.ref (er K .size)) none H') : SpSz K n m (xs ++ ys) H Q E
theorem pss_no {X : Cx} {ss : List Stmt} : PSs X ss (fun _ _ _ => False) := ⟨fun _ _ _ _ _ _ h => h.elim⟩
inductive BadI (a : Addr) (xs : List V) (H : Hp) (i : Nat) : L2.St → Hp → Prop where
  | mk {y : Option V} (h : BadL H (xs.drop i)) : BadI a xs H i [some (.ref a), y] H
theorem BadL.ne {H : Hp} {xs : List V} (h : BadL H xs) : xs ≠ [] := by
  cases h <;> intro z <;> cases z
section
variable {P : Program} {w : World} {K : PySem.W.Frag} {mg : Str → Option Value} {base : Heap}
theorem HX_check_sizes (p : Pl K mg "check_sizes" s_check_sizes) (GE : ErG K mg) (h_is_number : Has P w K mg base CX0 1 "is_number" ["thing"] (SpIsNumber K)) : Has P w K mg base (CXN P w) 2 "check_sizes" ["some"] (SpCheckX K) := by
  refine p.mkX sc_check_sizes (fun _ _ _ _ _ _ us hl => match us, hl with | [_], _ => rfl) (fun vs H Q E h => ?_) (fun f cdv A outer s H vs Q E hr h => ?_)
  · cases h; rfl
  · obtain @⟨a, xs, _, _, _, hS, hb, q⟩ := h
    refine ⟨_, (pss_one (ps_for (passes_of rfl) (by rfl) (pi_list (pv 0)) (pg_name (i := 1) sc_check_sizes.nd rfl (Or.inl rfl)) (pss_one (ps_if (PW.pt (pw_or (pt_not (pt_val (pe_fn h_is_number (hr.mono (by decide)) pass0 (pa_cons (pv 1) pa_nil)))) (pw_or1 (pt_cmpR op_lt (pv 1) pe_int (nomark _))))) (pss_one (L2N.ps_raise rfl (L2N.takes_of rfl rfl rfl rfl) (pmk_err (e := .size) GE rfl))) pss_nil)))), ?_⟩
    refine ⟨_, rfl, a, rfl, ⟨_, sqL hS⟩, for_list (K := K) (a := a) (xs := xs) (fun i σ H' => BadI a xs H i σ H') (.mk hb) ?_ ?_ ?_⟩
    · rintro i σ H' _ ⟨_⟩
      exact sqL hS
    · rintro i y σ _ hi ⟨h⟩
      have hlt := (List.getElem?_eq_some_iff.mp hi).1
      have ed : xs.drop i = y :: xs.drop (i + 1) := by
        rw [List.drop_eq_getElem_cons hlt, (List.getElem?_eq_some_iff.mp hi).2]
      rw [ed] at h
      cases h with
      | here hb =>
        cases hb with
        | low hn =>
          refine ⟨_, rfl, num_int ⟨_, rfl, iteF ⟨_, rfl, _, _, rfl, rfl, _, rfl, ?_⟩⟩⟩
          exact iteP hn q
        | kd hk hn =>
          refine ⟨_, rfl, kd_num hk ⟨_, rfl, ?_⟩⟩
          rw [decide_eq_false hn]
          exact iteT (iteT q)
      | @next n _ h0 h =>
        refine ⟨_, rfl, num_int ⟨_, rfl, iteF ⟨_, rfl, _, _, rfl, rfl, _, rfl, ?_⟩⟩⟩
        exact iteN (show ¬ n < 1 by omega) (.mk h)
    · rintro σ _ ⟨h⟩
      rw [List.drop_length] at h
      exact absurd rfl h.ne
theorem HX_told (p : Pl K mg "told" s_told) (hx_check_sizes : Has P w K mg base (CXN P w) 2 "check_sizes" ["some"] (SpCheckX K)) : Has P w K mg base (CXN P w) 3 "told" ["length", "width", "first", "second"] (SpSz K 4 0) := by
  refine p.mkX sc_told (fun _ _ _ _ _ _ us hl => match us, hl with | [_, _, _, _], _ => rfl) (fun vs H Q E h => ?_) (fun f cdv A outer s H vs Q E hr h => ?_)
  · cases h with
    | mk hx hy => rw [List.length_append, hx, hy]; rfl
  · obtain @⟨xs, ys, _, _, _, hx, hy, hb, q⟩ := h
    refine ⟨_, (pss_cons (ps_expr (pe_fn hx_check_sizes (hr.mono (by decide)) (L2N.passes_call (L2N.takes_of rfl rfl rfl rfl) (fun _ _ _ _ h => h)) (pa_cons (pe_lst (pa_cons (pv 0) (pa_cons (pv 1) (pa_cons (pv 2) (pa_cons (pv 3) pa_nil))))) pa_nil)))
      pss_no), ?_⟩
    match xs, ys, hx, hy with
    | [x0, x1, x2, x3], [], _, _ =>
      walk_at "rd"
      intro l hl
      generalize hH1 : upd H l _ = H1
      obtain ⟨sm1, up1⟩ : Same H H1 ∧ H1 l = some (.lst [x0, x1, x2, x3]) := newH hH1 hl
      clear hH1
      exact .mk up1 (hb.mono sm1) (q _ sm1)
theorem HXS_check_laid (p : Pl K mg "check_laid" s_check_laid) (hx_check_sizes : Has P w K mg base (CXN P w) 2 "check_sizes" ["some"] (SpCheckX K)) : Has P w K mg base (CXN P w) 3 "check_laid" ["length", "width", "first", "second"] (SpSz K 4 0) := by
  refine p.mkX sc_check_laid (fun _ _ _ _ _ _ us hl => match us, hl with | [_, _, _, _], _ => rfl) (fun vs H Q E h => ?_) (fun f cdv A outer s H vs Q E hr h => ?_)
  · cases h with
    | mk hx hy => rw [List.length_append, hx, hy]; rfl
  · obtain @⟨xs, ys, _, _, _, hx, hy, hb, q⟩ := h
    refine ⟨_, (pss_cons (ps_expr (pe_fn hx_check_sizes (hr.mono (by decide)) (L2N.passes_call (L2N.takes_of rfl rfl rfl rfl) (fun _ _ _ _ h => h)) (pa_cons (pe_lst (pa_cons (pv 0) (pa_cons (pv 1) (pa_cons (pv 2) (pa_cons (pv 3) pa_nil))))) pa_nil)))
      pss_no), ?_⟩
    match xs, ys, hx, hy with
    | [x0, x1, x2, x3], [], _, _ =>
      walk_at "rd"
      intro l hl
      generalize hH1 : upd H l _ = H1
      obtain ⟨sm1, up1⟩ : Same H H1 ∧ H1 l = some (.lst [x0, x1, x2, x3]) := newH hH1 hl
      clear hH1
      exact .mk up1 (hb.mono sm1) (q _ sm1)
theorem HXS_judged (p : Pl K mg "judged" s_judged) (hx_check_sizes : Has P w K mg base (CXN P w) 2 "check_sizes" ["some"] (SpCheckX K)) : Has P w K mg base (CXN P w) 3 "judged" ["length", "width", "first", "second", "bricks"] (SpSz K 4 1) := by
  refine p.mkX sc_judged (fun _ _ _ _ _ _ us hl => match us, hl with | [_, _, _, _, _], _ => rfl) (fun vs H Q E h => ?_) (fun f cdv A outer s H vs Q E hr h => ?_)
  · cases h with
    | mk hx hy => rw [List.length_append, hx, hy]; rfl
  · obtain @⟨xs, ys, _, _, _, hx, hy, hb, q⟩ := h
    refine ⟨_, (pss_cons (ps_expr (pe_fn hx_check_sizes (hr.mono (by decide)) (L2N.passes_call (L2N.takes_of rfl rfl rfl rfl) (fun _ _ _ _ h => h)) (pa_cons (pe_lst (pa_cons (pv 0) (pa_cons (pv 1) (pa_cons (pv 2) (pa_cons (pv 3) pa_nil))))) pa_nil)))
      pss_no), ?_⟩
    match xs, ys, hx, hy with
    | [x0, x1, x2, x3], [y0], _, _ =>
      walk_at "rd"
      intro l hl
      generalize hH1 : upd H l _ = H1
      obtain ⟨sm1, up1⟩ : Same H H1 ∧ H1 l = some (.lst [x0, x1, x2, x3]) := newH hH1 hl
      clear hH1
      exact .mk up1 (hb.mono sm1) (q _ sm1)
theorem HXS_sum_of (p : Pl K mg "sum_of" s_sum_of) (hx_check_sizes : Has P w K mg base (CXN P w) 2 "check_sizes" ["some"] (SpCheckX K)) : Has P w K mg base (CXN P w) 3 "sum_of" ["size", "first", "second"] (SpSz K 3 0) := by
  refine p.mkX sc_sum_of (fun _ _ _ _ _ _ us hl => match us, hl with | [_, _, _], _ => rfl) (fun vs H Q E h => ?_) (fun f cdv A outer s H vs Q E hr h => ?_)
  · cases h with
    | mk hx hy => rw [List.length_append, hx, hy]; rfl
  · obtain @⟨xs, ys, _, _, _, hx, hy, hb, q⟩ := h
    refine ⟨_, (pss_cons (ps_expr (pe_fn hx_check_sizes (hr.mono (by decide)) (L2N.passes_call (L2N.takes_of rfl rfl rfl rfl) (fun _ _ _ _ h => h)) (pa_cons (pe_lst (pa_cons (pv 0) (pa_cons (pv 1) (pa_cons (pv 2) pa_nil)))) pa_nil)))
      pss_no), ?_⟩
    match xs, ys, hx, hy with
    | [x0, x1, x2], [], _, _ =>
      walk_at "rd"
      intro l hl
      generalize hH1 : upd H l _ = H1
      obtain ⟨sm1, up1⟩ : Same H H1 ∧ H1 l = some (.lst [x0, x1, x2]) := newH hH1 hl
      clear hH1
      exact .mk up1 (hb.mono sm1) (q _ sm1)
theorem HXS_alike (p : Pl K mg "alike" s_alike) (hx_check_sizes : Has P w K mg base (CXN P w) 2 "check_sizes" ["some"] (SpCheckX K)) : Has P w K mg base (CXN P w) 3 "alike" ["length", "width", "size", "colour"] (SpSz K 3 1) := by
  refine p.mkX sc_alike (fun _ _ _ _ _ _ us hl => match us, hl with | [_, _, _, _], _ => rfl) (fun vs H Q E h => ?_) (fun f cdv A outer s H vs Q E hr h => ?_)
  · cases h with
    | mk hx hy => rw [List.length_append, hx, hy]; rfl
  · obtain @⟨xs, ys, _, _, _, hx, hy, hb, q⟩ := h
    refine ⟨_, (pss_cons (ps_expr (pe_fn hx_check_sizes (hr.mono (by decide)) (L2N.passes_call (L2N.takes_of rfl rfl rfl rfl) (fun _ _ _ _ h => h)) (pa_cons (pe_lst (pa_cons (pv 0) (pa_cons (pv 1) (pa_cons (pv 2) pa_nil)))) pa_nil)))
      pss_no), ?_⟩
    match xs, ys, hx, hy with
    | [x0, x1, x2], [y0], _, _ =>
      walk_at "rd"
      intro l hl
      generalize hH1 : upd H l _ = H1
      obtain ⟨sm1, up1⟩ : Same H H1 ∧ H1 l = some (.lst [x0, x1, x2]) := newH hH1 hl
      clear hH1
      exact .mk up1 (hb.mono sm1) (q _ sm1)
theorem HXS_lying (p : Pl K mg "lying" s_lying) (hx_check_laid : Has P w K mg base (CXN P w) 3 "check_laid" ["length", "width", "first", "second"] (SpSz K 4 0)) : Has P w K mg base (CXN P w) 4 "lying" ["length", "width", "first", "second"] (SpSz K 4 0) := by
  refine p.mkX sc_lying (fun _ _ _ _ _ _ us hl => match us, hl with | [_, _, _, _], _ => rfl) (fun vs H Q E h => ?_) (fun f cdv A outer s H vs Q E hr h => ?_)
  · cases h with
    | mk hx hy => rw [List.length_append, hx, hy]; rfl
  · obtain @⟨xs, ys, _, _, _, hx, hy, hb, q⟩ := h
    refine ⟨_, (pss_cons (ps_expr (pe_fn hx_check_laid (hr.mono (by decide)) (L2N.passes_call (L2N.takes_of rfl rfl rfl rfl) (fun _ _ _ _ h => h)) (pa_cons (pv 0) (pa_cons (pv 1) (pa_cons (pv 2) (pa_cons (pv 3) pa_nil))))))
      pss_no), ?_⟩
    match xs, ys, hx, hy with
    | [x0, x1, x2, x3], [], _, _ =>
      walk_at "rd"
      exact .mk (xs := [x0, x1, x2, x3]) (ys := []) rfl rfl hb q
theorem HXS_standing (p : Pl K mg "standing" s_standing) (hx_lying : Has P w K mg base (CXN P w) 4 "lying" ["length", "width", "first", "second"] (SpSz K 4 0)) : Has P w K mg base (CXN P w) 5 "standing" ["length", "width", "first", "second"] (SpSz K 4 0) := by
  refine p.mkX sc_standing (fun _ _ _ _ _ _ us hl => match us, hl with | [_, _, _, _], _ => rfl) (fun vs H Q E h => ?_) (fun f cdv A outer s H vs Q E hr h => ?_)
  · cases h with
    | mk hx hy => rw [List.length_append, hx, hy]; rfl
  · obtain @⟨xs, ys, _, _, _, hx, hy, hb, q⟩ := h
    refine ⟨_, (pss_cons (ps_set (i := 4) sc_standing.nd rfl (Or.inl rfl) (pe_fn hx_lying (hr.mono (by decide)) (L2N.passes_call (L2N.takes_of rfl rfl rfl rfl) (fun _ _ _ _ h => h)) (pa_cons (pv 0) (pa_cons (pv 1) (pa_cons (pv 2) (pa_cons (pv 3) pa_nil))))))
      pss_no), ?_⟩
    match xs, ys, hx, hy with
    | [x0, x1, x2, x3], [], _, _ =>
      walk_at "rd"
      exact .mk (xs := [x0, x1, x2, x3]) (ys := []) rfl rfl hb q
theorem HXS_brick_on (p : Pl K mg "brick_on" s_brick_on) (hx_check_laid : Has P w K mg base (CXN P w) 3 "check_laid" ["length", "width", "first", "second"] (SpSz K 4 0)) : Has P w K mg base (CXN P w) 4 "brick_on" ["length", "width", "first", "second", "cell"] (SpSz K 4 1) := by
  refine p.mkX sc_brick_on (fun _ _ _ _ _ _ us hl => match us, hl with | [_, _, _, _, _], _ => rfl) (fun vs H Q E h => ?_) (fun f cdv A outer s H vs Q E hr h => ?_)
  · cases h with
    | mk hx hy => rw [List.length_append, hx, hy]; rfl
  · obtain @⟨xs, ys, _, _, _, hx, hy, hb, q⟩ := h
    refine ⟨_, (pss_cons (ps_expr (pe_fn hx_check_laid (hr.mono (by decide)) (L2N.passes_call (L2N.takes_of rfl rfl rfl rfl) (fun _ _ _ _ h => h)) (pa_cons (pv 0) (pa_cons (pv 1) (pa_cons (pv 2) (pa_cons (pv 3) pa_nil))))))
      pss_no), ?_⟩
    match xs, ys, hx, hy with
    | [x0, x1, x2, x3], [y0], _, _ =>
      walk_at "rd"
      exact .mk (xs := [x0, x1, x2, x3]) (ys := []) rfl rfl hb q
end
end BF

/-! ### what are no cells, colours, bricks, and too great floors are refused -/
namespace BF
open PySem PySem.Spec PyProof.Rows L2
inductive BadC (L W : Int) (H : Hp) : V → Prop where
  | kd {v : V} {T : String} (h : Kd H v T) (hn : T ≠ "tuple") : BadC L W H v
  | len {a : Addr} {xs : List V} (h : H a = some (.tup xs)) (hl : xs.length ≠ 2) : BadC L W H (.ref a)
  | fst {a : Addr} {x y : V} {T : String} (h : H a = some (.tup [x, y])) (k : Kd H x T) (hn : T ≠ "int") : BadC L W H (.ref a)
  | snd {a : Addr} {n : Int} {y : V} {T : String} (h : H a = some (.tup [.int n, y])) (k : Kd H y T) (hn : T ≠ "int") : BadC L W H (.ref a)
  | out {a : Addr} {n m : Int} (h : H a = some (.tup [.int n, .int m])) (ho : ¬ ((0 ≤ n ∧ n < L) ∧ 0 ≤ m ∧ m < W)) : BadC L W H (.ref a)
theorem BadC.mono {L W : Int} {H H' : Hp} {v : V} (h : BadC L W H v) (sm : Same H H') : BadC L W H' v := by
  cases h with
  | kd h hn => exact .kd (h.mono sm) hn
  | len h hl => exact .len (sm _ _ h) hl
  | fst h k hn => exact .fst (sm _ _ h) (k.mono sm) hn
  | snd h k hn => exact .snd (sm _ _ h) (k.mono sm) hn
  | out h ho => exact .out (sm _ _ h) ho
inductive SpIsCellN : Sp where
  | mk {L W : Int} {v : V} {H : Hp} {Q : VK} {E : XK} (hb : BadC L W H v) (q : Q (.bl false) H) : SpIsCellN [.int L, .int W, v] H Q E
inductive SpBrickC (K : PySem.W.Frag) : Sp where
  | mk {L W f s : Int} {v : V} {H : Hp} {Q : VK} {E : XK} (hL : Sz L) (hW : Sz W) (hf : Sz f) (hs : Sz s) (fr : Free L W f s) (hb : BadC L W H v) (q : ∀ H', Same H H' → E (.ref (er K .cell)) none H') : SpBrickC K [.int L, .int W, .int f, .int s, v] H Q E
inductive BadK (s : Int) (H : Hp) : V → Prop where
  | kd {v : V} {T : String} (h : Kd H v T) (hn : T ≠ "int") : BadK s H v
  | out {n : Int} (ho : ¬ (0 ≤ n ∧ n < s)) : BadK s H (.int n)
theorem BadK.mono {s : Int} {H H' : Hp} {v : V} (h : BadK s H v) (sm : Same H H') : BadK s H' v := by
  cases h with
  | kd h hn => exact .kd (h.mono sm) hn
  | out ho => exact .out ho
inductive SpColX (K : PySem.W.Frag) : Sp where
  | mk {L W s : Int} {v : V} {H : Hp} {Q : VK} {E : XK} (hL : 0 < L) (hW : 0 < W) (hs : 0 < s) (hb : BadK s H v) (q : ∀ H', Same H H' → E (.ref (er K .colour)) none H') : SpColX K [.int L, .int W, .int s, v] H Q E
/-- a thing, whether it is a brick -/
inductive BrK (H : Hp) : V → Bool → Prop where
  | good {a : Addr} {x y : Int} {l : Bool} (h : H a = some (.tup [.int x, .int y, .bl l])) : BrK H (.ref a) true
  | kd {v : V} {T : String} (h : Kd H v T) (hn : T ≠ "tuple") : BrK H v false
  | len {a : Addr} {xs : List V} (h : H a = some (.tup xs)) (hl : xs.length ≠ 3) : BrK H (.ref a) false
  | trd {a : Addr} {x y z : V} {T : String} (h : H a = some (.tup [x, y, z])) (k : Kd H z T) (hn : T ≠ "bool") : BrK H (.ref a) false
  | fst {a : Addr} {x y : V} {l : Bool} {T : String} (h : H a = some (.tup [x, y, .bl l])) (k : Kd H x T) (hn : T ≠ "int") : BrK H (.ref a) false
  | snd {a : Addr} {n : Int} {y : V} {l : Bool} {T : String} (h : H a = some (.tup [.int n, y, .bl l])) (k : Kd H y T) (hn : T ≠ "int") : BrK H (.ref a) false
theorem BrK.mono {H H' : Hp} {v : V} {b : Bool} (h : BrK H v b) (sm : Same H H') : BrK H' v b := by
  cases h with
  | good h => exact .good (sm _ _ h)
  | kd h hn => exact .kd (h.mono sm) hn
  | len h hl => exact .len (sm _ _ h) hl
  | trd h k hn => exact .trd (sm _ _ h) (k.mono sm) hn
  | fst h k hn => exact .fst (sm _ _ h) (k.mono sm) hn
  | snd h k hn => exact .snd (sm _ _ h) (k.mono sm) hn
inductive SpIsBrickG : Sp where
  | mk {v : V} {b : Bool} {H : Hp} {Q : VK} {E : XK} (hb : BrK H v b) (q : Q (.bl b) H) : SpIsBrickG [v] H Q E
/-- things each a brick or none, one of them none -/
def BrL (H : Hp) (xs : List V) (bs : List Bool) : Prop := xs.length = bs.length ∧ ∀ (i : Nat) (v : V) (b : Bool), xs[i]? = some v → bs[i]? = some b → BrK H v b
theorem BrL.mono {H H' : Hp} {xs : List V} {bs : List Bool} (h : BrL H xs bs) (sm : Same H H') : BrL H' xs bs := ⟨h.1, fun i v b h1 h2 => (h.2 i v b h1 h2).mono sm⟩
inductive BadB (H : Hp) : V → Prop where
  | kd {v : V} {T : String} (h : Kd H v T) (hn : T ≠ "list") : BadB H v
  | lst {a : Addr} {xs : List V} {bs : List Bool} (h : H a = some (.lst xs)) (hl : xs.length ≤ 1000) (hb : BrL H xs bs) (ha : bs.all id = false) : BadB H (.ref a)
theorem BadB.mono' {H H' : Hp} {v : V} (h : BadB H v) (sm : Same H H') : BadB H' v := by
  cases h with
  | kd h hn => exact .kd (h.mono sm) hn
  | lst h hl hb ha => exact .lst (sm _ _ h) hl (hb.mono sm) ha
theorem same_mut2 {H H' : Hp} {F : Addr} {o : HO} (sm : Same H H') (n : H F = none) : Same H (upd H' F o) := fun b u e => by
  rw [upd_ne (ne_of_none e n)]
  exact sm b u e
inductive SpBrX (K : PySem.W.Frag) : Sp where
  | mk {L W f s : Int} {v : V} {H : Hp} {Q : VK} {E : XK} (hL : 0 < L) (hW : 0 < W) (hm : L * W ≤ 400) (hf : 0 < f) (hs : 0 < s) (hb : BadB H v) (q : ∀ H', Same H H' → E (.ref (er K .bricks)) none H') : SpBrX K [.int L, .int W, .int f, .int s, v] H Q E
inductive SpGrX (K : PySem.W.Frag) : Sp where
  | mk {L W f s : Int} {v : V} {H : Hp} {Q : VK} {E : XK} (hL : Sz L) (hW : Sz W) (hm : 400 < L * W) (hf : 0 < f) (hs : 0 < s) (q : ∀ H', Same H H' → E (.ref (er K .great)) none H') : SpGrX K [.int L, .int W, .int f, .int s, v] H Q E
section
variable {P : Program} {w : World} {K : PySem.W.Frag} {mg : Str → Option Value} {base : Heap}
theorem HN_is_cell (p : Pl K mg "is_cell" s_is_cell) (B : Bi mg) (h_is_number : Has P w K mg base CX0 1 "is_number" ["thing"] (SpIsNumber K)) : Has P w K mg base CX0 2 "is_cell" ["length", "width", "thing"] SpIsCellN := by
  refine p.mk0 sc_is_cell (fun _ _ _ _ _ _ us hl => match us, hl with | [_, _, _], _ => rfl) (fun vs H Q E h => ?_) (fun f cdv A outer s H vs Q E hr h => ?_)
  · cases h; rfl
  · obtain @⟨L, W, v, _, _, _, hb, q⟩ := h
    refine ⟨_, (pss_cons (ps_if (PW.pt (pw_or (pt_not (pt_val (pe_callB (r := rIsi K) call_isi (by rfl) B.isinstance (by decide +kernel) (pa_cons (pv 2) (pa_cons (pe_bltn (v := .ty "tuple") (by rfl) B.tuple (by decide +kernel) rfl) pa_nil))))) (pw_or (pt_cmpR op_ne (pe_callB (r := rLen2 K) call_len_seq (by rfl) B.len PySem.boot_len (pa_cons (pv 2) pa_nil)) pe_int (nomark _)) (pw_or (pt_not (pt_val (pe_fn h_is_number (hr.mono (by decide)) pass0 (pa_cons (pe_ix (r := rIxT K) ix_tup (pv 2) pe_int (fun _ _ => rfl)) pa_nil)))) (pw_or1 (pt_not (pt_val (pe_fn h_is_number (hr.mono (by decide)) pass0 (pa_cons (pe_ix (r := rIxT K) ix_tup (pv 2) pe_int (fun _ _ => rfl)) pa_nil))))))))) (pss_one (ps_ret pe_bl)) pss_nil)
      (pss_one (ps_ret (pe_and (pe_chain op_le op_lt pe_int (pe_ix (r := rIxT K) ix_tup (pv 2) pe_int (fun _ _ => rfl)) (pv 0)) (pe_one (pe_chain op_le op_lt pe_int (pe_ix (r := rIxT K) ix_tup (pv 2) pe_int (fun _ _ => rfl)) (pv 1))))))), ?_⟩
    cases hb with
    | kd h hn =>
      refine ⟨_, rfl, v, _, _, _, _, rfl, .ty "tuple", h.ty, kit_ty h.kit.2.1, _, rfl, ?_⟩
      rw [decide_eq_false hn]
      exact iteT (iteT q)
    | @len a xs h hl =>
      refine ⟨_, rfl, _, _, _, _, true, rfl, .ty "tuple", .base (.tup h), kit_ty (by decide +kernel), true, rfl, iteF ?_⟩
      refine ⟨_, rfl, a, _, rfl, .inr (sqT h), rfl, _, rfl, iteNe (fun _ => iteT q) (fun z => absurd (by omega) hl)⟩
    | @fst a x y T h k hn =>
      refine ⟨_, rfl, _, _, _, _, true, rfl, .ty "tuple", .base (.tup h), kit_ty (by decide +kernel), true, rfl, iteF ?_⟩
      refine ⟨_, rfl, a, _, rfl, .inr (sqT h), rfl, _, rfl, iteNe (fun z => absurd rfl z) (fun _ => ?_)⟩
      refine ⟨_, rfl, a, _, 0, _, rfl, rfl, sqT h, rfl, kd_num k ⟨_, rfl, ?_⟩⟩
      rw [decide_eq_false hn]
      exact iteT (iteT q)
    | @snd a n y T h k hn =>
      refine ⟨_, rfl, _, _, _, _, true, rfl, .ty "tuple", .base (.tup h), kit_ty (by decide +kernel), true, rfl, iteF ?_⟩
      refine ⟨_, rfl, a, _, rfl, .inr (sqT h), rfl, _, rfl, iteNe (fun z => absurd rfl z) (fun _ => ?_)⟩
      refine ⟨_, rfl, a, _, 0, _, rfl, rfl, sqT h, rfl, num_int ⟨true, rfl, iteF ?_⟩⟩
      refine ⟨_, rfl, a, _, 1, _, rfl, rfl, sqT h, rfl, kd_num k ⟨_, rfl, ?_⟩⟩
      rw [decide_eq_false hn]
      exact iteT q
    | @out a n m h ho =>
      refine ⟨_, rfl, _, _, _, _, true, rfl, .ty "tuple", .base (.tup h), kit_ty (by decide +kernel), true, rfl, iteF ?_⟩
      refine ⟨_, rfl, a, _, rfl, .inr (sqT h), rfl, _, rfl, iteNe (fun z => absurd rfl z) (fun _ => ?_)⟩
      refine ⟨_, rfl, a, _, 0, _, rfl, rfl, sqT h, rfl, num_int ⟨true, rfl, iteF ?_⟩⟩
      refine ⟨_, rfl, a, _, 1, _, rfl, rfl, sqT h, rfl, num_int ⟨true, rfl, iteF ?_⟩⟩
      refine ⟨_, rfl, a, _, 0, _, rfl, rfl, sqT h, rfl, ?_⟩
      walk_at "rd"
      refine iteD (fun c1 => ?_) (fun _ => ⟨_, rfl, iteF q⟩)
      walk_at "rd"
      refine iteD (fun c2 => ?_) (fun _ => q)
      refine ⟨_, rfl, a, _, 1, _, rfl, rfl, sqT h, rfl, ?_⟩
      walk_at "rd"
      refine iteD (fun c3 => ?_) (fun _ => q)
      walk_at "rd"
      show Q (.bl (decide (m < W))) H
      rw [decide_eq_false (show ¬ m < W from fun c4 => ho ⟨⟨c1, c2⟩, c3, c4⟩)]
      exact q
theorem HC_brick_on (p : Pl K mg "brick_on" s_brick_on) (GE : ErG K mg) (h_check_laid : Has P w K mg base CX0 4 "check_laid" ["length", "width", "first", "second"] SpLaid) (h_is_cell : Has P w K mg base CX0 2 "is_cell" ["length", "width", "thing"] SpIsCellN) :
    Has P w K mg base (CXN P w) 5 "brick_on" ["length", "width", "first", "second", "cell"] (SpBrickC K) := by
  refine p.mkX sc_brick_on (fun _ _ _ _ _ _ us hl => match us, hl with | [_, _, _, _, _], _ => rfl) (fun vs H Q E h => ?_) (fun f cdv A outer s H vs Q E hr h => ?_)
  · cases h; rfl
  · obtain @⟨L, W, fi, se, v, _, _, _, hL, hW, hf, hs, fr, hb, q⟩ := h
    refine ⟨_, (pss_cons (ps_expr (pe_fn h_check_laid (hr.mono (by decide)) pass0 (pa_cons (pv 0) (pa_cons (pv 1) (pa_cons (pv 2) (pa_cons (pv 3) pa_nil))))))
      (pss_cons (ps_if (pt_not (pt_val (pe_fn h_is_cell (hr.mono (by decide)) pass0 (pa_cons (pv 0) (pa_cons (pv 1) (pa_cons (pv 4) pa_nil)))))) (pss_one (L2N.ps_raise rfl (L2N.takes_of rfl rfl rfl rfl) (pmk_err (e := .cell) GE rfl))) pss_nil)
      pss_no)), ?_⟩
    walk_at "rd"
    refine .mk hL hW hf hs fr fun H1 sm1 => ?_
    walk_at "rd"
    exact .mk (hb.mono sm1) ⟨_, rfl, iteT (q _ sm1)⟩
theorem HC_alike (p : Pl K mg "alike" s_alike) (GE : ErG K mg) (h_check_sizes : Has P w K mg base CX0 2 "check_sizes" ["some"] (SpCheckSizes K)) (h_is_number : Has P w K mg base CX0 1 "is_number" ["thing"] (SpIsNumber K)) :
    Has P w K mg base (CXN P w) 3 "alike" ["length", "width", "size", "colour"] (SpColX K) := by
  refine p.mkX sc_alike (fun _ _ _ _ _ _ us hl => match us, hl with | [_, _, _, _], _ => rfl) (fun vs H Q E h => ?_) (fun f cdv A outer s H vs Q E hr h => ?_)
  · cases h; rfl
  · obtain @⟨L, W, se, v, _, _, _, hL, hW, hs, hb, q⟩ := h
    refine ⟨_, (pss_cons (ps_expr (pe_fn h_check_sizes (hr.mono (by decide)) pass0 (pa_cons (pe_lst (pa_cons (pv 0) (pa_cons (pv 1) (pa_cons (pv 2) pa_nil)))) pa_nil)))
      (pss_cons (ps_if (PW.pt (pw_or (pt_not (pt_val (pe_fn h_is_number (hr.mono (by decide)) pass0 (pa_cons (pv 3) pa_nil)))) (pw_or1 (pt_not (pt_chain op_le op_lt pe_int (pv 3) (pv 2)))))) (pss_one (L2N.ps_raise rfl (L2N.takes_of rfl rfl rfl rfl) (pmk_err (e := .colour) GE rfl))) pss_nil)
      pss_no)), ?_⟩
    walk_at "rd"
    intro l hl
    generalize hH1 : upd H l _ = H1
    obtain ⟨sm1, up1⟩ : Same H H1 ∧ H1 l = some (.lst ([L, W, se].map V.int)) := newH hH1 hl
    clear hH1
    refine .mk (ns := [L, W, se]) (sqL up1) (fun n hn => ?_) ?_
    · have e : n = L ∨ n = W ∨ n = se := by simpa using hn
      rcases e with rfl | rfl | rfl <;> assumption
    cases hb.mono sm1 with
    | kd h hn =>
      refine ⟨_, rfl, kd_num h ⟨_, rfl, ?_⟩⟩
      rw [decide_eq_false hn]
      exact iteT (iteT (q _ sm1))
    | @out n ho =>
      refine ⟨_, rfl, num_int ⟨_, rfl, iteF ?_⟩⟩
      walk_at "rd"
      refine iteD (fun c1 => ?_) (fun _ => ⟨_, rfl, iteT (q _ sm1)⟩)
      walk_at "rd"
      refine iteNN (show ¬ n < se from fun c2 => ho ⟨c1, c2⟩) (q _ sm1)
theorem HG_is_brick (p : Pl K mg "is_brick" s_is_brick) (B : Bi mg) (h_is_number : Has P w K mg base CX0 1 "is_number" ["thing"] (SpIsNumber K)) : Has P w K mg base CX0 2 "is_brick" ["thing"] SpIsBrickG := by
  refine p.mk0 sc_is_brick (fun _ _ _ _ _ _ us hl => match us, hl with | [_], _ => rfl) (fun vs H Q E h => ?_) (fun f cdv A outer s H vs Q E hr h => ?_)
  · cases h; rfl
  · obtain @⟨v, b, _, _, _, hb, q⟩ := h
    refine ⟨_, (pss_cons (ps_if (PW.pt (pw_or (pt_not (pt_val (pe_callB (r := rIsi K) call_isi (by rfl) B.isinstance (by decide +kernel) (pa_cons (pv 0) (pa_cons (pe_bltn (v := .ty "tuple") (by rfl) B.tuple (by decide +kernel) rfl) pa_nil))))) (pw_or (pt_cmpR op_ne (pe_callB (r := rLen2 K) call_len_seq (by rfl) B.len PySem.boot_len (pa_cons (pv 0) pa_nil)) pe_int (nomark _)) (pw_or1 (pt_not (pt_val (pe_callB (r := rIsi K) call_isi (by rfl) B.isinstance (by decide +kernel) (pa_cons (pe_ix (r := rIxT K) ix_tup (pv 0) pe_int (fun _ _ => rfl)) (pa_cons (pe_bltn (v := .ty "bool") (by rfl) B.bool (by decide +kernel) rfl) pa_nil))))))))) (pss_one (ps_ret pe_bl)) pss_nil)
      (pss_one (ps_ret (pe_and (pe_fn h_is_number (hr.mono (by decide)) pass0 (pa_cons (pe_ix (r := rIxT K) ix_tup (pv 0) pe_int (fun _ _ => rfl)) pa_nil)) (pe_one (pe_fn h_is_number (hr.mono (by decide)) pass0 (pa_cons (pe_ix (r := rIxT K) ix_tup (pv 0) pe_int (fun _ _ => rfl)) pa_nil))))))), ?_⟩
    cases hb with
    | @good o x y l ho =>
      refine ⟨_, rfl, _, _, _, _, true, rfl, .ty "tuple", .base (.tup ho), kit_ty (by decide +kernel), true, rfl, iteF ?_⟩
      refine ⟨_, rfl, o, _, rfl, .inr (sqT ho), rfl, _, rfl, iteNe (fun z => absurd rfl z) (fun _ => ?_)⟩
      refine ⟨_, rfl, o, _, 2, _, rfl, rfl, sqT ho, rfl, _, _, _, _, true, rfl, .ty "bool", .base (.bl l), kit_ty (by decide +kernel), true, rfl, iteF ?_⟩
      refine ⟨_, rfl, o, _, 0, _, rfl, rfl, sqT ho, rfl, num_int ⟨true, rfl, iteT ?_⟩⟩
      exact ⟨_, rfl, o, _, 1, _, rfl, rfl, sqT ho, rfl, num_int q⟩
    | kd h hn =>
      refine ⟨_, rfl, v, _, _, _, _, rfl, .ty "tuple", h.ty, kit_ty h.kit.2.1, _, rfl, ?_⟩
      rw [decide_eq_false hn]
      exact iteT (iteT q)
    | @len a xs h hl =>
      refine ⟨_, rfl, _, _, _, _, true, rfl, .ty "tuple", .base (.tup h), kit_ty (by decide +kernel), true, rfl, iteF ?_⟩
      refine ⟨_, rfl, a, _, rfl, .inr (sqT h), rfl, _, rfl, iteNe (fun _ => iteT q) (fun z => absurd (by omega) hl)⟩
    | @trd a x y z T h k hn =>
      refine ⟨_, rfl, _, _, _, _, true, rfl, .ty "tuple", .base (.tup h), kit_ty (by decide +kernel), true, rfl, iteF ?_⟩
      refine ⟨_, rfl, a, _, rfl, .inr (sqT h), rfl, _, rfl, iteNe (fun z => absurd rfl z) (fun _ => ?_)⟩
      refine ⟨_, rfl, a, _, 2, _, rfl, rfl, sqT h, rfl, z, _, _, _, _, rfl, .ty "bool", k.ty, kit_ty k.kit.2.2.2, _, rfl, ?_⟩
      rw [decide_eq_false hn]
      exact iteT q
    | @fst a x y l T h k hn =>
      refine ⟨_, rfl, _, _, _, _, true, rfl, .ty "tuple", .base (.tup h), kit_ty (by decide +kernel), true, rfl, iteF ?_⟩
      refine ⟨_, rfl, a, _, rfl, .inr (sqT h), rfl, _, rfl, iteNe (fun z => absurd rfl z) (fun _ => ?_)⟩
      refine ⟨_, rfl, a, _, 2, _, rfl, rfl, sqT h, rfl, _, _, _, _, true, rfl, .ty "bool", .base (.bl l), kit_ty (by decide +kernel), true, rfl, iteF ?_⟩
      refine ⟨_, rfl, a, _, 0, _, rfl, rfl, sqT h, rfl, kd_num k ⟨_, rfl, ?_⟩⟩
      rw [decide_eq_false hn]
      exact iteF q
    | @snd a n y l T h k hn =>
      refine ⟨_, rfl, _, _, _, _, true, rfl, .ty "tuple", .base (.tup h), kit_ty (by decide +kernel), true, rfl, iteF ?_⟩
      refine ⟨_, rfl, a, _, rfl, .inr (sqT h), rfl, _, rfl, iteNe (fun z => absurd rfl z) (fun _ => ?_)⟩
      refine ⟨_, rfl, a, _, 2, _, rfl, rfl, sqT h, rfl, _, _, _, _, true, rfl, .ty "bool", .base (.bl l), kit_ty (by decide +kernel), true, rfl, iteF ?_⟩
      refine ⟨_, rfl, a, _, 0, _, rfl, rfl, sqT h, rfl, num_int ⟨true, rfl, iteT ?_⟩⟩
      refine ⟨_, rfl, a, _, 1, _, rfl, rfl, sqT h, rfl, kd_num k ?_⟩
      rw [decide_eq_false hn]
      exact q
theorem HB_judged (p : Pl K mg "judged" s_judged) (B : Bi mg) (GE : ErG K mg) (M_MOST : ∃ t, mg "MOST" = some (.int 400 t)) (h_check_sizes : Has P w K mg base CX0 2 "check_sizes" ["some"] (SpCheckSizes K)) (h_is_brick : Has P w K mg base CX0 2 "is_brick" ["thing"] SpIsBrickG) :
    Has P w K mg base (CXN P w) 3 "judged" ["length", "width", "first", "second", "bricks"] (SpBrX K) := by
  refine p.mkX sc_judged (fun _ _ _ _ _ _ us hl => match us, hl with | [_, _, _, _, _], _ => rfl) (fun vs H Q E h => ?_) (fun f cdv A outer s H vs Q E hr h => ?_)
  · cases h; rfl
  · obtain @⟨L, W, fi, se, v, _, _, _, hL, hW, hm, hf, hs, hb, q⟩ := h
    refine ⟨_, (pss_cons (ps_expr (pe_fn h_check_sizes (hr.mono (by decide)) pass0 (pa_cons (pe_lst (pa_cons (pv 0) (pa_cons (pv 1) (pa_cons (pv 2) (pa_cons (pv 3) pa_nil))))) pa_nil)))
      (pss_cons (ps_if (pt_cmpR op_gt (pe_op op_mulX (pv 0) (pv 1)) (pe_const (by rfl) M_MOST) (nomark _)) (pss_one (L2N.ps_raise rfl (L2N.takes_of rfl rfl rfl rfl) (pmk_err (e := .great) GE rfl))) pss_nil)
      (pss_cons (ps_if (PW.pt (pw_or (pt_not (pt_val (pe_callB (r := rIsi K) call_isi (by rfl) B.isinstance (by decide +kernel) (pa_cons (pv 4) (pa_cons (pe_bltn (v := .ty "list") (by rfl) B.list (by decide +kernel) rfl) pa_nil))))) (pw_or1 (pt_not (pt_val (pe_callB (cr_all rfl) (by rfl) B.all (by decide +kernel) (pa_cons (pe_lc (own := [("brick", 6)]) (by rfl) sc_judged.nd (pi_list (pv 4)) (blkOk_by (own := [("brick", 6)]) (N := ["length", "width", "first", "second", "bricks", "count", "brick", "along", "up", "many"]) (sc := defScope s_judged) (by decide +kernel)) (fun _ _ _ _ _ => (pg_name (i := 6) sc_judged.nd rfl (Or.inl rfl))) (fun _ _ _ _ _ => pts_nil) (fun _ _ _ _ _ => (pe_fn h_is_brick (hr.mono (by decide)) pass0 (pa_cons (pv 6) pa_nil)))) pa_nil))))))) (pss_one (L2N.ps_raise rfl (L2N.takes_of rfl rfl rfl rfl) (pmk_err (e := .bricks) GE rfl))) pss_nil)
      pss_no))), ?_⟩
    have hL2 : L ≤ 400 := by
      have := Int.mul_le_mul_of_nonneg_left (show (1 : Int) ≤ W by omega) (show 0 ≤ L by omega)
      omega
    have hW2 : W ≤ 400 := by
      have := Int.mul_le_mul_of_nonneg_right (show (1 : Int) ≤ L by omega) (show 0 ≤ W by omega)
      omega
    have bL : Bn 20 L := bnl (by omega)
    have bW : Bn 20 W := bnl (by omega)
    walk_at "rd"
    intro l hl
    generalize hH1 : upd H l _ = H1
    obtain ⟨sm1, up1⟩ : Same H H1 ∧ H1 l = some (.lst ([L, W, fi, se].map V.int)) := newH hH1 hl
    clear hH1
    refine .mk (ns := [L, W, fi, se]) (sqL up1) (fun n hn => ?_) ?_
    · have e : n = L ∨ n = W ∨ n = fi ∨ n = se := by simpa using hn
      rcases e with rfl | rfl | rfl | rfl <;> assumption
    walk_at "rd"
    refine iteN (show ¬ (400 : Int) < L * W by omega) ?_
    cases hb.mono' sm1 with
    | kd h hn =>
      refine ⟨_, rfl, v, _, _, _, _, rfl, .ty "list", h.ty, kit_ty h.kit.2.2.1, _, rfl, ?_⟩
      rw [decide_eq_false hn]
      exact iteT (iteT (q _ sm1))
    | @lst a xs bs h hl hbl ha =>
      refine ⟨_, rfl, _, _, _, _, true, rfl, .ty "list", .base (.lst h), kit_ty (by decide +kernel), true, rfl, iteF ?_⟩
      refine ⟨_, rfl, a, rfl, ⟨_, sqL h⟩, fun D hD => ?_⟩
      refine lc_list (K := K) (a := a) (xs := xs) (fun i H' => Same H1 H' ∧ H' D = some (.lst ((bs.take i).map V.bl))) ⟨same_upd hD, by rw [upd_same]; rfl⟩ (fun i H' _ ⟨sm, _⟩ => sqL (sm _ _ h)) ?_ ?_
      · rintro i x H' hi ⟨sm, eD⟩
        have hlt := (List.getElem?_eq_some_iff.mp hi).1
        have hlb : i < bs.length := by rw [← hbl.1]; exact hlt
        have hbi : bs[i]? = some bs[i] := List.getElem?_eq_getElem hlb
        refine ⟨rfl, lc_yes ?_⟩
        walk_at "rd"
        refine .mk ((hbl.2 i x _ hi hbi).mono sm) ⟨_, eD, ?_, same_mut2 sm hD, ?_⟩
        · rw [List.length_map, List.length_take]
          exact Nat.lt_of_le_of_lt (show min i bs.length ≤ 1000 by omega) (by decide)
        · rw [upd_same, List.take_add_one, hbi, List.map_append]
          rfl
      rintro H2 ⟨sm2, eD⟩
      rw [hbl.1, List.take_length] at eD
      refine ⟨D, bs, rfl, sqL eD, ?_⟩
      rw [ha]
      exact ⟨_, rfl, iteT (q _ (sm1.trans sm2))⟩
theorem HG_judged (p : Pl K mg "judged" s_judged) (GE : ErG K mg) (M_MOST : ∃ t, mg "MOST" = some (.int 400 t)) (h_check_sizes : Has P w K mg base CX0 2 "check_sizes" ["some"] (SpCheckSizes K)) :
    Has P w K mg base (CXN P w) 3 "judged" ["length", "width", "first", "second", "bricks"] (SpGrX K) := by
  refine p.mkX sc_judged (fun _ _ _ _ _ _ us hl => match us, hl with | [_, _, _, _, _], _ => rfl) (fun vs H Q E h => ?_) (fun f cdv A outer s H vs Q E hr h => ?_)
  · cases h; rfl
  · obtain @⟨L, W, fi, se, v, _, _, _, hL, hW, hm, hf, hs, q⟩ := h
    refine ⟨_, (pss_cons (ps_expr (pe_fn h_check_sizes (hr.mono (by decide)) pass0 (pa_cons (pe_lst (pa_cons (pv 0) (pa_cons (pv 1) (pa_cons (pv 2) (pa_cons (pv 3) pa_nil))))) pa_nil)))
      (pss_cons (ps_if (pt_cmpR op_gt (pe_op op_mulX (pv 0) (pv 1)) (pe_const (by rfl) M_MOST) (nomark _)) (pss_one (L2N.ps_raise rfl (L2N.takes_of rfl rfl rfl rfl) (pmk_err (e := .great) GE rfl))) pss_nil)
      pss_no)), ?_⟩
    have pL := hL.pos
    have pW := hW.pos
    walk_at "rd"
    intro l hl
    generalize hH1 : upd H l _ = H1
    obtain ⟨sm1, up1⟩ : Same H H1 ∧ H1 l = some (.lst ([L, W, fi, se].map V.int)) := newH hH1 hl
    clear hH1
    refine .mk (ns := [L, W, fi, se]) (sqL up1) (fun n hn => ?_) ?_
    · have e : n = L ∨ n = W ∨ n = fi ∨ n = se := by simpa using hn
      rcases e with rfl | rfl | rfl | rfl <;> assumption
    walk_at "rd"
    exact iteP hm (q _ sm1)
end
end BF

/-! ### k07: the doors, each with something bad -/
namespace BF
open PySem PySem.Spec PyProof.Rows L2
inductive Kn where
  | size | cell | colour | bricks | great
deriving DecidableEq
def Kn.err : Kn → Er
  | .size => .size
  | .cell => .cell
  | .colour => .colour
  | .bricks => .bricks
  | .great => .great
def Kn.due : Kn → Int
  | .size => 0
  | .cell => 1
  | .colour => 2
  | .bricks => 3
  | .great => 5
def Kn.doors : Kn → Int
  | .size => 26
  | _ => 1
def Kn.ask : Kn → Str
  | .size => "_law_with_size"
  | .cell => "_law_with_cell"
  | .colour => "_law_with_colour"
  | .bricks => "_law_with_bricks"
  | .great => "_law_with_great"
inductive BadG (H : Hp) : V → Prop where
  | mk {a : Addr} {L W : Int} (h : H a = some (.tup [.int L, .int W])) (hL : Sz L) (hW : Sz W) (hm : 400 < L * W) : BadG H (.ref a)
def BadT : Kn → Hp → V → Prop
  | .size => BadS
  | .cell => BadC 6 4
  | .colour => BadK 5
  | .bricks => BadB
  | .great => BadG
theorem BadT.mono {k : Kn} {H H' : Hp} {v : V} (h : BadT k H v) (sm : Same H H') : BadT k H' v := by
  cases k with
  | size => exact BadS.mono h sm
  | cell => exact BadC.mono h sm
  | colour => exact BadK.mono h sm
  | bricks => exact BadB.mono' h sm
  | great =>
    have h : BadG H v := h
    show BadG H' v
    cases h with
    | mk hh hL hW hm => exact .mk (sm _ _ hh) hL hW hm
inductive SpAskX (K : PySem.W.Frag) (k : Kn) : Sp where
  | mk {door : Int} {v : V} {H : Hp} {Q : VK} {E : XK} (h0 : 0 ≤ door) (h1 : door < k.doors) (hb : BadT k H v) (q : ∀ H', Same H H' → E (.ref (er K k.err)) none H') : SpAskX K k [.int door, v] H Q E
theorem free_of3 {L W f s m n u v : Int} (hf : 0 < f) (hs : 0 < s) (a : L % f = 0 ∨ W % f = 0) (b : L % s = 0 ∨ W % s = 0) (r1 : Rep L f s m n) (r2 : Rep W f s u v) : Free L W f s := by
  have s1 : strB L W f = false := by
    unfold strB
    rcases a with e | e
    · rw [decide_eq_true e]; rfl
    · rw [decide_eq_true e, Bool.not_true, Bool.and_false]
  have s2 : strB L W s = false := by
    unfold strB
    rcases b with e | e
    · rw [decide_eq_true e]; rfl
    · rw [decide_eq_true e, Bool.not_true, Bool.and_false]
  refine ⟨?_, ?_⟩
  · unfold strL
    rw [s1, s2]
    rfl
  · unfold shoL
    rw [sho_no hf hs r1, sho_no hf hs r2]
    rfl
theorem free_6423 : Free 6 4 2 3 := free_of3 (m := 3) (n := 0) (u := 2) (v := 0) (by decide) (by decide) (.inl (by decide)) (.inl (by decide)) ⟨by decide, by decide, by decide⟩ ⟨by decide, by decide, by decide⟩
theorem set4 {H : Hp} {v : V} (hb : BadS H v) {j : Nat} (hj : j < 4) : ∃ x0 x1 x2 x3, ([V.int 6, V.int 4, V.int 2, V.int 3].set j v) = [x0, x1, x2, x3] ∧ BadL H [x0, x1, x2, x3] ∧ (j < 3 → BadL H [x0, x1, x2]) := by
  have e : j = 0 ∨ j = 1 ∨ j = 2 ∨ j = 3 := by omega
  rcases e with rfl | rfl | rfl | rfl
  · exact ⟨_, _, _, _, rfl, .here hb, fun _ => .here hb⟩
  · exact ⟨_, _, _, _, rfl, .next (by decide) (.here hb), fun _ => .next (by decide) (.here hb)⟩
  · exact ⟨_, _, _, _, rfl, .next (by decide) (.next (by decide) (.here hb)), fun _ => .next (by decide) (.next (by decide) (.here hb))⟩
  · exact ⟨_, _, _, _, rfl, .next (by decide) (.next (by decide) (.next (by decide) (.here hb))), fun z => absurd z (by decide)⟩
theorem set3 {H : Hp} {v : V} (hb : BadS H v) {j : Nat} (hj : j < 3) : ∃ x0 x1 x2, ([V.int 6, V.int 4, V.int 2].set j v) = [x0, x1, x2] ∧ BadL H [x0, x1, x2] := by
  have e : j = 0 ∨ j = 1 ∨ j = 2 := by omega
  rcases e with rfl | rfl | rfl
  · exact ⟨_, _, _, rfl, .here hb⟩
  · exact ⟨_, _, _, rfl, .next (by decide) (.here hb)⟩
  · exact ⟨_, _, _, rfl, .next (by decide) (.next (by decide) (.here hb))⟩
section
variable {P : Program} {w : World} {K : PySem.W.Frag} {mg : Str → Option Value} {base : Heap}
theorem HX__law_with_cell (p : Pl K mg "_law_with_cell" s__law_with_cell) (hx_brick_on : Has P w K mg base (CXN P w) 5 "brick_on" ["length", "width", "first", "second", "cell"] (SpBrickC K)) : Has P w K mg base (CXN P w) 6 "_law_with_cell" ["_law_door", "_law_thing"] (SpAskX K .cell) := by
  refine p.mkX sc__law_with_cell (fun _ _ _ _ _ _ us hl => match us, hl with | [_, _], _ => rfl) (fun vs H Q E h => ?_) (fun f cdv A outer s H vs Q E hr h => ?_)
  · cases h; rfl
  · obtain @⟨door, v, _, _, _, h0, h1, hb, q⟩ := h
    refine ⟨_, (pss_one (ps_ret (pe_fn hx_brick_on (hr.mono (by decide)) (L2N.passes_call (L2N.takes_of rfl rfl rfl rfl) (fun _ _ _ _ h => h)) (pa_cons pe_int (pa_cons pe_int (pa_cons pe_int (pa_cons pe_int (pa_cons (pv 1) pa_nil)))))))), ?_⟩
    have z : ∀ n : Int, 0 < n → n < 1000 → Sz n := fun n h0 h1 => sz_of_lt h0 (by omega)
    walk_at "rd"
    exact .mk (z _ (by decide) (by decide)) (z _ (by decide) (by decide)) (z _ (by decide) (by decide)) (z _ (by decide) (by decide)) free_6423 hb q
theorem HX__law_with_colour (p : Pl K mg "_law_with_colour" s__law_with_colour) (hx_alike : Has P w K mg base (CXN P w) 3 "alike" ["length", "width", "size", "colour"] (SpColX K)) : Has P w K mg base (CXN P w) 6 "_law_with_colour" ["_law_door", "_law_thing"] (SpAskX K .colour) := by
  refine p.mkX (k := 5) sc__law_with_colour (fun _ _ _ _ _ _ us hl => match us, hl with | [_, _], _ => rfl) (fun vs H Q E h => ?_) (fun f cdv A outer s H vs Q E hr h => ?_)
  · cases h; rfl
  · obtain @⟨door, v, _, _, _, h0, h1, hb, q⟩ := h
    refine ⟨_, (pss_one (ps_ret (pe_fn hx_alike (hr.mono (by decide)) (L2N.passes_call (L2N.takes_of rfl rfl rfl rfl) (fun _ _ _ _ h => h)) (pa_cons pe_int (pa_cons pe_int (pa_cons pe_int (pa_cons (pv 1) pa_nil))))))), ?_⟩
    walk_at "rd"
    exact .mk (by decide) (by decide) (by decide) hb q
theorem HX__law_with_bricks (p : Pl K mg "_law_with_bricks" s__law_with_bricks) (hx_judged : Has P w K mg base (CXN P w) 3 "judged" ["length", "width", "first", "second", "bricks"] (SpBrX K)) : Has P w K mg base (CXN P w) 6 "_law_with_bricks" ["_law_door", "_law_thing"] (SpAskX K .bricks) := by
  refine p.mkX (k := 5) sc__law_with_bricks (fun _ _ _ _ _ _ us hl => match us, hl with | [_, _], _ => rfl) (fun vs H Q E h => ?_) (fun f cdv A outer s H vs Q E hr h => ?_)
  · cases h; rfl
  · obtain @⟨door, v, _, _, _, h0, h1, hb, q⟩ := h
    refine ⟨_, (pss_one (ps_ret (pe_fn hx_judged (hr.mono (by decide)) (L2N.passes_call (L2N.takes_of rfl rfl rfl rfl) (fun _ _ _ _ h => h)) (pa_cons pe_int (pa_cons pe_int (pa_cons pe_int (pa_cons pe_int (pa_cons (pv 1) pa_nil)))))))), ?_⟩
    walk_at "rd"
    exact .mk (by decide) (by decide) (by decide) (by decide) (by decide) hb q
theorem HX__law_with_great (p : Pl K mg "_law_with_great" s__law_with_great) (hx_judged : Has P w K mg base (CXN P w) 3 "judged" ["length", "width", "first", "second", "bricks"] (SpGrX K)) : Has P w K mg base (CXN P w) 6 "_law_with_great" ["_law_door", "_law_thing"] (SpAskX K .great) := by
  refine p.mkX (k := 5) sc__law_with_great (fun _ _ _ _ _ _ us hl => match us, hl with | [_, _], _ => rfl) (fun vs H Q E h => ?_) (fun f cdv A outer s H vs Q E hr h => ?_)
  · cases h; rfl
  · obtain @⟨door, v, _, _, _, h0, h1, hb, q⟩ := h
    refine ⟨_, (pss_one (ps_ret (pe_fn hx_judged (hr.mono (by decide)) (L2N.passes_call (L2N.takes_of rfl rfl rfl rfl) (fun _ _ _ _ h => h)) (pa_cons (pe_ix (r := rIxT K) ix_tup (pv 1) pe_int (fun _ _ => rfl)) (pa_cons (pe_ix (r := rIxT K) ix_tup (pv 1) pe_int (fun _ _ => rfl)) (pa_cons pe_int (pa_cons pe_int (pa_cons pe_non pa_nil)))))))), ?_⟩
    obtain @⟨a, L, W, ha, hL, hW, hm⟩ := (show BadG H v from hb)
    refine ⟨_, rfl, a, _, 0, _, rfl, rfl, sqT ha, rfl, _, rfl, a, _, 1, _, rfl, rfl, sqT ha, rfl, ?_⟩
    walk_at "rd"
    exact .mk hL hW hm (by decide) (by decide) q
theorem HX__law_with_size (p : Pl K mg "_law_with_size" s__law_with_size) (hx_told : Has P w K mg base (CXN P w) 3 "told" ["length", "width", "first", "second"] (SpSz K 4 0)) (hx_brick_on : Has P w K mg base (CXN P w) 4 "brick_on" ["length", "width", "first", "second", "cell"] (SpSz K 4 1)) (hx_lying : Has P w K mg base (CXN P w) 4 "lying" ["length", "width", "first", "second"] (SpSz K 4 0))
    (hx_standing : Has P w K mg base (CXN P w) 5 "standing" ["length", "width", "first", "second"] (SpSz K 4 0)) (hx_judged : Has P w K mg base (CXN P w) 3 "judged" ["length", "width", "first", "second", "bricks"] (SpSz K 4 1)) (hx_sum_of : Has P w K mg base (CXN P w) 3 "sum_of" ["size", "first", "second"] (SpSz K 3 0)) (hx_alike : Has P w K mg base (CXN P w) 3 "alike" ["length", "width", "size", "colour"] (SpSz K 3 1)) :
    Has P w K mg base (CXN P w) 6 "_law_with_size" ["_law_door", "_law_thing"] (SpAskX K .size) := by
  refine p.mkX sc__law_with_size (fun _ _ _ _ _ _ us hl => match us, hl with | [_, _], _ => rfl) (fun vs H Q E h => ?_) (fun f cdv A outer s H vs Q E hr h => ?_)
  · cases h; rfl
  · obtain @⟨door, v, _, _, _, h0, h1, hb, q⟩ := h
    refine ⟨_, (pss_cons (ps_set (i := 2) sc__law_with_size.nd rfl (Or.inl rfl) (pe_lst (pa_cons pe_int (pa_cons pe_int (pa_cons pe_int (pa_cons pe_int pa_nil))))))
      (pss_cons (ps_asg (pv 1) (pg_sub (pv 2) (pe_op op_mod (pv 0) pe_int) set_list))
      (pss_cons (ps_if (pt_cmpR op_lt (pv 0) pe_int (nomark _)) (pss_one (ps_ret (pe_fn hx_told (hr.mono (by decide)) (L2N.passes_call (L2N.takes_of rfl rfl rfl rfl) (fun _ _ _ _ h => h)) (pa_cons (pe_ix (r := rIxL K) ix_list (pv 2) pe_int (fun _ _ => rfl)) (pa_cons (pe_ix (r := rIxL K) ix_list (pv 2) pe_int (fun _ _ => rfl)) (pa_cons (pe_ix (r := rIxL K) ix_list (pv 2) pe_int (fun _ _ => rfl)) (pa_cons (pe_ix (r := rIxL K) ix_list (pv 2) pe_int (fun _ _ => rfl)) pa_nil))))))) pss_nil)
      (pss_cons (ps_if (pt_cmpR op_lt (pv 0) pe_int (nomark _)) (pss_one (ps_ret (pe_fn hx_brick_on (hr.mono (by decide)) (L2N.passes_call (L2N.takes_of rfl rfl rfl rfl) (fun _ _ _ _ h => h)) (pa_cons (pe_ix (r := rIxL K) ix_list (pv 2) pe_int (fun _ _ => rfl)) (pa_cons (pe_ix (r := rIxL K) ix_list (pv 2) pe_int (fun _ _ => rfl)) (pa_cons (pe_ix (r := rIxL K) ix_list (pv 2) pe_int (fun _ _ => rfl)) (pa_cons (pe_ix (r := rIxL K) ix_list (pv 2) pe_int (fun _ _ => rfl)) (pa_cons pe_non pa_nil)))))))) pss_nil)
      (pss_cons (ps_if (pt_cmpR op_lt (pv 0) pe_int (nomark _)) (pss_one (ps_ret (pe_fn hx_lying (hr.mono (by decide)) (L2N.passes_call (L2N.takes_of rfl rfl rfl rfl) (fun _ _ _ _ h => h)) (pa_cons (pe_ix (r := rIxL K) ix_list (pv 2) pe_int (fun _ _ => rfl)) (pa_cons (pe_ix (r := rIxL K) ix_list (pv 2) pe_int (fun _ _ => rfl)) (pa_cons (pe_ix (r := rIxL K) ix_list (pv 2) pe_int (fun _ _ => rfl)) (pa_cons (pe_ix (r := rIxL K) ix_list (pv 2) pe_int (fun _ _ => rfl)) pa_nil))))))) pss_nil)
      (pss_cons (ps_if (pt_cmpR op_lt (pv 0) pe_int (nomark _)) (pss_one (ps_ret (pe_fn hx_standing (hr.mono (by decide)) (L2N.passes_call (L2N.takes_of rfl rfl rfl rfl) (fun _ _ _ _ h => h)) (pa_cons (pe_ix (r := rIxL K) ix_list (pv 2) pe_int (fun _ _ => rfl)) (pa_cons (pe_ix (r := rIxL K) ix_list (pv 2) pe_int (fun _ _ => rfl)) (pa_cons (pe_ix (r := rIxL K) ix_list (pv 2) pe_int (fun _ _ => rfl)) (pa_cons (pe_ix (r := rIxL K) ix_list (pv 2) pe_int (fun _ _ => rfl)) pa_nil))))))) pss_nil)
      (pss_cons (ps_if (pt_cmpR op_lt (pv 0) pe_int (nomark _)) (pss_one (ps_ret (pe_fn hx_judged (hr.mono (by decide)) (L2N.passes_call (L2N.takes_of rfl rfl rfl rfl) (fun _ _ _ _ h => h)) (pa_cons (pe_ix (r := rIxL K) ix_list (pv 2) pe_int (fun _ _ => rfl)) (pa_cons (pe_ix (r := rIxL K) ix_list (pv 2) pe_int (fun _ _ => rfl)) (pa_cons (pe_ix (r := rIxL K) ix_list (pv 2) pe_int (fun _ _ => rfl)) (pa_cons (pe_ix (r := rIxL K) ix_list (pv 2) pe_int (fun _ _ => rfl)) (pa_cons pe_non pa_nil)))))))) pss_nil)
      (pss_cons (ps_if (pt_cmpR op_lt (pv 0) pe_int (nomark _)) (pss_one (ps_ret (pe_fn hx_sum_of (hr.mono (by decide)) (L2N.passes_call (L2N.takes_of rfl rfl rfl rfl) (fun _ _ _ _ h => h)) (pa_cons (pe_ix (r := rIxL K) ix_list (pv 2) pe_int (fun _ _ => rfl)) (pa_cons (pe_ix (r := rIxL K) ix_list (pv 2) pe_int (fun _ _ => rfl)) (pa_cons (pe_ix (r := rIxL K) ix_list (pv 2) pe_int (fun _ _ => rfl)) pa_nil)))))) pss_nil)
      (pss_cons (ps_set (i := 2) sc__law_with_size.nd rfl (Or.inl rfl) (pe_lst (pa_cons pe_int (pa_cons pe_int (pa_cons pe_int pa_nil)))))
      (pss_cons (ps_asg (pv 1) (pg_sub (pv 2) (pe_op op_sub (pv 0) pe_int) set_list))
      (pss_one (ps_ret (pe_fn hx_alike (hr.mono (by decide)) (L2N.passes_call (L2N.takes_of rfl rfl rfl rfl) (fun _ _ _ _ h => h)) (pa_cons (pe_ix (r := rIxL K) ix_list (pv 2) pe_int (fun _ _ => rfl)) (pa_cons (pe_ix (r := rIxL K) ix_list (pv 2) pe_int (fun _ _ => rfl)) (pa_cons (pe_ix (r := rIxL K) ix_list (pv 2) pe_int (fun _ _ => rfl)) (pa_cons pe_non pa_nil))))))))))))))))), ?_⟩
    have h1 : door < 26 := h1
    have hb : BadS H v := hb
    obtain ⟨j, hj⟩ := Int.eq_ofNat_of_zero_le (show 0 ≤ door % 4 by omega)
    have hj4 : j < 4 := by omega
    walk_at "rd"
    intro l hl
    generalize hH1 : upd H l _ = H1
    obtain ⟨sm1, up1⟩ : Same H H1 ∧ H1 l = some (.lst [V.int 6, V.int 4, V.int 2, V.int 3]) := newH hH1 hl
    clear hH1
    walk_at "rd"
    obtain ⟨x0, x1, x2, x3, ex, bl4, bl3⟩ := set4 hb hj4
    refine ⟨l, _, _, j, rfl, rfl, up1, (by rw [hj]; exact Evl.ixN_nat (show j < 4 from hj4)), ?_⟩
    rw [ex]
    have sm2 : Same H (upd H1 l (.lst [x0, x1, x2, x3])) := same_mut2 sm1 hl
    have up2 : (upd H1 l (.lst [x0, x1, x2, x3])) l = some (.lst [x0, x1, x2, x3]) := upd_same
    generalize upd H1 l (.lst [x0, x1, x2, x3]) = H2 at sm2 up2 ⊢
    replace bl4 := bl4.mono sm2
    replace bl3 := fun h => (bl3 h).mono sm2
    have q2 : ∀ H', Same H2 H' → E (.ref (er K .size)) none H' := fun H' sm => q H' (sm2.trans sm)
    walk_at "rd"
    refine iteD (fun c0 => ?_) (fun c0 => ?_)
    · have c0 : door < 4 := c0
      refine ⟨_, rfl, l, _, 0, _, rfl, rfl, sqL up2, rfl, _, rfl, l, _, 1, _, rfl, rfl, sqL up2, rfl, _, rfl, l, _, 2, _, rfl, rfl, sqL up2, rfl, _, rfl, l, _, 3, _, rfl, rfl, sqL up2, rfl, ?_⟩
      walk_at "rd"
      exact .mk (xs := [x0, x1, x2, x3]) (ys := []) rfl rfl bl4 q2
    walk_at "rd"
    have c0 : ¬ door < 4 := c0
    refine iteD (fun c1 => ?_) (fun c1 => ?_)
    · have c1 : door < 8 := c1
      refine ⟨_, rfl, l, _, 0, _, rfl, rfl, sqL up2, rfl, _, rfl, l, _, 1, _, rfl, rfl, sqL up2, rfl, _, rfl, l, _, 2, _, rfl, rfl, sqL up2, rfl, _, rfl, l, _, 3, _, rfl, rfl, sqL up2, rfl, ?_⟩
      walk_at "rd"
      exact .mk (xs := [x0, x1, x2, x3]) (ys := [.non]) rfl rfl bl4 q2
    walk_at "rd"
    have c1 : ¬ door < 8 := c1
    refine iteD (fun c2 => ?_) (fun c2 => ?_)
    · have c2 : door < 12 := c2
      refine ⟨_, rfl, l, _, 0, _, rfl, rfl, sqL up2, rfl, _, rfl, l, _, 1, _, rfl, rfl, sqL up2, rfl, _, rfl, l, _, 2, _, rfl, rfl, sqL up2, rfl, _, rfl, l, _, 3, _, rfl, rfl, sqL up2, rfl, ?_⟩
      walk_at "rd"
      exact .mk (xs := [x0, x1, x2, x3]) (ys := []) rfl rfl bl4 q2
    walk_at "rd"
    have c2 : ¬ door < 12 := c2
    refine iteD (fun c3 => ?_) (fun c3 => ?_)
    · have c3 : door < 16 := c3
      refine ⟨_, rfl, l, _, 0, _, rfl, rfl, sqL up2, rfl, _, rfl, l, _, 1, _, rfl, rfl, sqL up2, rfl, _, rfl, l, _, 2, _, rfl, rfl, sqL up2, rfl, _, rfl, l, _, 3, _, rfl, rfl, sqL up2, rfl, ?_⟩
      walk_at "rd"
      exact .mk (xs := [x0, x1, x2, x3]) (ys := []) rfl rfl bl4 q2
    walk_at "rd"
    have c3 : ¬ door < 16 := c3
    refine iteD (fun c4 => ?_) (fun c4 => ?_)
    · have c4 : door < 20 := c4
      refine ⟨_, rfl, l, _, 0, _, rfl, rfl, sqL up2, rfl, _, rfl, l, _, 1, _, rfl, rfl, sqL up2, rfl, _, rfl, l, _, 2, _, rfl, rfl, sqL up2, rfl, _, rfl, l, _, 3, _, rfl, rfl, sqL up2, rfl, ?_⟩
      walk_at "rd"
      exact .mk (xs := [x0, x1, x2, x3]) (ys := [.non]) rfl rfl bl4 q2
    walk_at "rd"
    have c4 : ¬ door < 20 := c4
    refine iteD (fun c5 => ?_) (fun c5 => ?_)
    · have c5 : door < 23 := c5
      refine ⟨_, rfl, l, _, 0, _, rfl, rfl, sqL up2, rfl, _, rfl, l, _, 1, _, rfl, rfl, sqL up2, rfl, _, rfl, l, _, 2, _, rfl, rfl, sqL up2, rfl, ?_⟩
      walk_at "rd"
      exact .mk (xs := [x0, x1, x2]) (ys := []) rfl rfl (bl3 (by omega)) q2
    have c5 : ¬ door < 23 := c5
    walk_at "rd"
    intro l3 hl3
    generalize hH3 : upd H2 l3 _ = H3
    obtain ⟨sm3, up3⟩ : Same H2 H3 ∧ H3 l3 = some (.lst [V.int 6, V.int 4, V.int 2]) := newH hH3 hl3
    clear hH3
    obtain ⟨i, hi⟩ := Int.eq_ofNat_of_zero_le (show 0 ≤ door - 23 by omega)
    have hi3 : i < 3 := by omega
    obtain ⟨y0, y1, y2, ey, cl3⟩ := set3 hb hi3
    walk_at "rd"
    refine ⟨l3, _, _, i, rfl, rfl, up3, (by rw [hi]; exact Evl.ixN_nat (show i < 3 from hi3)), ?_⟩
    rw [ey]
    have sm4 : Same H2 (upd H3 l3 (.lst [y0, y1, y2])) := same_mut2 sm3 hl3
    have up4 : (upd H3 l3 (.lst [y0, y1, y2])) l3 = some (.lst [y0, y1, y2]) := upd_same
    generalize upd H3 l3 (.lst [y0, y1, y2]) = H4 at sm4 up4 ⊢
    refine ⟨_, rfl, l3, _, 0, _, rfl, rfl, sqL up4, rfl, _, rfl, l3, _, 1, _, rfl, rfl, sqL up4, rfl, _, rfl, l3, _, 2, _, rfl, rfl, sqL up4, rfl, ?_⟩
    walk_at "rd"
    exact .mk (xs := [y0, y1, y2]) (ys := [.non]) rfl rfl (cl3.mono (sm2.trans sm4)) fun H' sm => q2 H' (sm4.trans sm)
end
end BF

/-! ### k07: whether it is refused by that class alone -/
namespace BF
open PySem PySem.Spec PyProof.Rows L2
def tCallAS (S : Addr → Sp → Prop) (i : Nat) (E : L2.St → XK) (t : TA) : TE := fun σ H Q => ∃ f sp, σ[i]? = some (some (.ref f)) ∧ S f sp ∧ t σ H fun vs H1 => sp vs H1 Q (E σ)
section
variable {X : Cx} {C : CXT} {k i : Nat} {E : L2.St → XK} {x : Str} {p pos : Pos} {e : Expr} {es : List Expr} {t : TA}
/-- a local name that holds one of several defs is called -/
theorem pe_callAS {S : Addr → Sp → Prop} (A : ∀ f sp, S f sp → ∃ fd ps, FnOk X.prog X.w X.K X.mg X.base C k f fd ps sp ∧ PySem.W.keepIn X.K (.ref f) = true ∧ Binds X.K fd ps []) (hr : Room k X.A) (hN : X.N[i]? = some x) (hv : Vis X.env.scope x) (hx : ∀ σ, PassesAt C X σ (E σ)) (ha : PA X (e :: es) t)
    (hdb : (x == ("__debug__" : Str)) = false := by decide) (hcd : (x == ("__classdict__" : Str)) = false := by decide)
    (he : starEach (e :: es) X.env = (false, eval e X.env) :: starEach es X.env := by rfl) (hpl : (backTo pos (starEach es X.env)).any (·.1) = false := by rfl) : PE X (.Call (.Name x p) (e :: es) [] pos) (tCallAS S i E t) := by
  refine ⟨fun pins s σ H Q I h => ?_⟩
  obtain ⟨f, sp, hs, hS, ht⟩ := h
  obtain ⟨fd, ps, F, hk, hb⟩ := A f sp hS
  refine wpAny_Call_Name_kw (thn ((pe_var (pos := p) hN hv hdb hcd).run pins s σ H (fun v H1 => v = .ref f ∧ H1 = H) I ⟨.ref f, hs, rfl, rfl⟩) fun u s1 ⟨v, H1, I1, r1, q1⟩ => ?_)
  obtain ⟨rfl, rfl⟩ := q1
  cases r1
  refine PySem.W.callWith_K (h₀ := X.base) I.ok.mod.kin hk (thn (ha.run pos pins s1 σ _ _ I1 ht) fun us s2 ⟨vs, H2, I2, r, q⟩ => ⟨I2.kIn, ?_⟩) he hpl
  exact run_fnS F hr hb (hx σ) I2 r q
theorem passAt0 {σ : L2.St} {E : XK} : PassesAt CX0 X σ E := fun _ _ _ _ _ _ h => h.elim
theorem hot_of {a : Addr} {oe : Obj} {cls : Value} {d : Option Addr} {pn : List (Addr × Obj)} (hz : L2N.Zn cls d oe) (hf : ∃ vs, oe.data = .fields vs) : L2H.HotC (X.suite a ((a, oe) :: pn)) := by
  obtain ⟨vs, hv⟩ := hf
  exact ⟨(a, oe), ⟨rfl, vs, hv, hz.2.2 vs hv⟩, List.mem_cons_self⟩
end
def AskS (K : PySem.W.Frag) (f : Addr) (sp : Sp) : Prop := ∃ k : Kn, f = He.ga K k.ask ∧ sp = SpAskX K k
theorem ask_held {P : Program} {w : World} {K : PySem.W.Frag} {mg : Str → Option Value} {base : Heap} (g : ∀ k : Kn, mg k.ask = some (.ref (He.ga K k.ask))) (h : ∀ k : Kn, Has P w K mg base (CXN P w) 6 k.ask ["_law_door", "_law_thing"] (SpAskX K k)) :
    ∀ f sp, AskS K f sp → ∃ fd ps, FnOk P w K mg base (CXN P w) 6 f fd ps sp ∧ PySem.W.keepIn K (.ref f) = true ∧ Binds K fd ps [] := by
  rintro f sp ⟨k, rfl, rfl⟩
  obtain ⟨f', fd, F, hm, hk, hb, _⟩ := h k
  have e : f' = He.ga K k.ask := by
    have z := hm.symm.trans (g k)
    cases z
    rfl
  subst e
  exact ⟨fd, _, F, hk, hb⟩
inductive SpDue7 (K : PySem.W.Frag) : Sp where
  | mk {k : Kn} {door : Int} {v : V} {H : Hp} {Q : VK} {E : XK} (h0 : 0 ≤ door) (h1 : door < k.doors) (hb : BadT k H v) (q : ∀ H', Same H H' → Q (.bl true) H') : SpDue7 K [.ref (He.ga K k.ask), .int door, v, .int k.due] H Q E
def dueL (k : Kn) : List Bool := [decide (Er.size = k.err) || decide (Er.size = Er.floor), decide (Er.cell = k.err) || decide (Er.cell = Er.floor), decide (Er.colour = k.err) || decide (Er.colour = Er.floor), decide (Er.bricks = k.err) || decide (Er.bricks = Er.floor), decide (Er.barred = k.err) || decide (Er.barred = Er.floor), decide (Er.great = k.err) || decide (Er.great = Er.floor)]
def dueR (k : Kn) (n : Nat) : List Bool := (List.range n).map fun j : Nat => decide (V.int (j : Int) = V.int k.due)
theorem due_eq (k : Kn) : dueL k = dueR k 6 := by cases k <;> decide
theorem dp_bls {K : PySem.W.Frag} {H : Hp} : ∀ bs : List Bool, DpAll K H (bs.map V.bl) (bs.map PyData.bool)
  | [] => .nil
  | b :: bs => .cons (.bl b) (dp_bls bs)
theorem shp_bls (bs : List Bool) : SeqAt.shaped (.list (bs.map .bool)) = true := (shp_list (n := 1) fun d hd => by
  obtain ⟨b, _, rfl⟩ := List.mem_map.mp hd
  exact shp_bool b).ok (by decide)
theorem shp_c (bs : List Bool) : PyData.canLay0 (.list (bs.map .bool)) = true := (shp_list (n := 1) fun d hd => by
  obtain ⟨b, _, rfl⟩ := List.mem_map.mp hd
  exact shp_bool b).c
theorem try_in {K : PySem.W.Frag} {c : Value} {i : Nat} {ts : Addr → Value → Option Addr → TS} {Wo : WX} {tb : WX → TS} {U : TS} {D : Ends} {σ : L2.St} {H : Hp} (h : tb (wAs K c i ts Wo { D with nx := U D }) { D with nx := U D } σ H) : tSeq (tTryN K c i ts Wo tb) U D σ H := h
section
variable {P : Program} {w : World} {K : PySem.W.Frag} {mg : Str → Option Value} {base : Heap}
theorem H__law_due (p : Pl K mg "_law_due" s__law_due) (B : Bi mg) (GE : ErG K mg) (a_ask : ∀ f sp, AskS K f sp → ∃ fd ps, FnOk P w K mg base (CXN P w) 6 f fd ps sp ∧ PySem.W.keepIn K (.ref f) = true ∧ Binds K fd ps []) :
    Has P w K mg base CX0 7 "_law_due" ["_law_ask", "_law_door", "_law_thing", "_law_due_here"] (SpDue7 K) := by
  refine p.mk0 sc__law_due (fun _ _ _ _ _ _ us hl => match us, hl with | [_, _, _, _], _ => rfl) (fun vs H Q E h => ?_) (fun f cdv A outer s H vs Q E hr h => ?_)
  · cases h; rfl
  · obtain @⟨k, door, v, _, _, _, h0, h1, hb, q⟩ := h
    refine ⟨_, (pss_cons (ps_tryN (i := 4) rfl rfl sc__law_due.nd rfl rfl ⟨rfl, by decide, .inl (GE.g .floor)⟩ takes0N (fun W pn xe tk _ => (pss_one (ps_expr (pe_callAS (i := 0) (S := AskS K) a_ask (hr.mono (by decide)) rfl (.inl rfl) (fun σ => L2N.passAt tk σ) (pa_cons (pv 1) (pa_cons (pv 2) pa_nil)))))) (fun a oe cls d pn hz hf => pss_any (Ok := IsEr K cls d) (fun e hi => (pss_cons (ps_set (i := 5) sc__law_due.nd rfl (Or.inl rfl) (pe_lst (pa_cons (pe_callB (r := rIsX K e a) (call_isX GE hi hz hf) (by rfl) B.isinstance (by decide +kernel) (pa_cons (pv 4) (pa_cons (pe_glob (v := .ref (er _ .size)) (by rfl) (GE.g .size) rfl) pa_nil))) (pa_cons (pe_callB (r := rIsX K e a) (call_isX GE hi hz hf) (by rfl) B.isinstance (by decide +kernel) (pa_cons (pv 4) (pa_cons (pe_glob (v := .ref (er _ .cell)) (by rfl) (GE.g .cell) rfl) pa_nil))) (pa_cons (pe_callB (r := rIsX K e a) (call_isX GE hi hz hf) (by rfl) B.isinstance (by decide +kernel) (pa_cons (pv 4) (pa_cons (pe_glob (v := .ref (er _ .colour)) (by rfl) (GE.g .colour) rfl) pa_nil))) pa_nil)))))
      (pss_cons (ps_set (i := 5) sc__law_due.nd rfl (Or.inl rfl) (pe_op op_cat (pv 5) (pe_lst (pa_cons (pe_callB (r := rIsX K e a) (call_isX GE hi hz hf) (by rfl) B.isinstance (by decide +kernel) (pa_cons (pv 4) (pa_cons (pe_glob (v := .ref (er _ .bricks)) (by rfl) (GE.g .bricks) rfl) pa_nil))) (pa_cons (pe_callB (r := rIsX K e a) (call_isX GE hi hz hf) (by rfl) B.isinstance (by decide +kernel) (pa_cons (pv 4) (pa_cons (pe_glob (v := .ref (er _ .barred)) (by rfl) (GE.g .barred) rfl) pa_nil))) (pa_cons (pe_callB (r := rIsX K e a) (call_isX GE hi hz hf) (by rfl) B.isinstance (by decide +kernel) (pa_cons (pv 4) (pa_cons (pe_glob (v := .ref (er _ .great)) (by rfl) (GE.g .great) rfl) pa_nil))) pa_nil))))))
      (pss_one (ps_ret (pe_and (pe_cmpR (r := rEqD K) (op_eqD hr.units) (pv 5) (pe_lcH (own := [("_law_k", 6)]) (hot_of hz hf) sc__law_due.nd (L2H.pi_range1H (by rfl) B.range (pa_cons pe_int pa_nil)) (blkOk_by (own := [("_law_k", 6)]) (N := ["_law_ask", "_law_door", "_law_thing", "_law_due_here", "error", "_law_found", "_law_k"]) (sc := defScope s__law_due) (by decide +kernel)) (fun _ _ _ _ _ => (pg_name (i := 6) sc__law_due.nd rfl (Or.inl rfl))) (fun _ _ _ _ _ => pts_nil) (fun _ _ _ _ _ => (pe_cmpR op_eq (pv 6) (pv 3) (nomark _)))) (nomark _)) (pe_one (pe_callB (r := rIsV a) (call_isV GE hi hz hf) (by rfl) B.isinstance (by decide +kernel) (pa_cons (pv 4) (pa_cons (pe_bltn (v := .ty "ValueError") (by rfl) B.ValueError (by decide +kernel) rfl) pa_nil))))))))))))
      (pss_one (ps_ret pe_bl))), ?_⟩
    refine try_in ?_
    generalize hW : wAs _ _ _ _ _ _ = W
    have key : ∀ H2, Same H H2 → W (.ref (er K k.err)) none [some (.ref (He.ga K k.ask)), some (.int door), some v, some (.int k.due), none, none, none] H2 := fun H2 sm2 => by
      rw [← hW]
      refine ⟨true, (GE.f k.err).ex, fun _ a ha => ⟨k.err, ⟨rfl, rfl⟩, ?_⟩, fun z => nomatch z⟩
      walk_at "rd"
      intro l3 hl3
      generalize hH3 : upd H2 l3 _ = H3
      obtain ⟨sm3, up3⟩ := newH hH3 hl3
      clear hH3
      walk_at "rd"
      intro l4 hl4
      generalize hH4 : upd H3 l4 _ = H4
      obtain ⟨sm4, up4⟩ := newH hH4 hl4
      clear hH4
      refine ⟨l3, l4, _, _, rfl, rfl, sm4 _ _ up3, up4, size4 (by simp), fun l5 hl5 => ?_⟩
      generalize hH5 : upd H4 l5 _ = H5
      obtain ⟨sm5, up5⟩ : Same H4 H5 ∧ H5 l5 = some (.lst ((dueL k).map V.bl)) := newH hH5 hl5
      clear hH5
      walk_at "rd"
      intro D hD
      refine lc_range (lo := 0) (n := 6) (fun j H' => Same H5 H' ∧ H' D = some (.lst ((dueR k j).map V.bl))) ⟨same_upd hD, upd_same⟩ ?_ ?_
      · rintro j H6 hj ⟨sm6, eD⟩
        have e0 : (0 : Int) + (j : Int) = j := by omega
        refine ⟨rfl, lc_yes ?_⟩
        walk_at "rd"
        refine ⟨_, eD, ?_, same_mut2 sm6 hD, ?_⟩
        · unfold dueR
          rw [List.length_map, List.length_map, List.length_range]
          exact Nat.lt_trans hj (by decide)
        · unfold dueR
          rw [upd_same, List.range_succ, List.map_append, List.map_append, e0]
          rfl
      rintro H6 ⟨sm6, eD⟩
      rw [← due_eq] at eD
      refine ⟨_, _, .lst (sqL (sm6 _ _ up5)) (dp_bls _), .lst (sqL eD) (dp_bls _), shp_bls _, shp_bls _, ?_⟩
      rw [SeqAt.eqv_refl _ (shp_c (dueL k))]
      refine ⟨_, rfl, iteT ?_⟩
      walk_at "rd"
      exact q _ (sm2.trans (sm3.trans (sm4.trans (sm5.trans sm6))))
    clear hW
    refine ⟨_, _, rfl, ⟨k, rfl, rfl⟩, ?_⟩
    walk_at "rd"
    exact .mk h0 h1 hb key
end
end BF

/-! ### k07: the bad things (printed by things.py) -/
namespace BF
open PySem PySem.Spec PyProof.Rows L2
inductive SpThings (K : PySem.W.Frag) (k : Kn) : Sp where
  | mk {n : Int} {H : Hp} {Q : VK} {E : XK} (h0 : 0 ≤ n) (hn : n < 10 ^ 60) (q : ∀ p vs H', Same H H' → H' p = some (.lst vs) → 0 < vs.length → vs.length ≤ 50 → (∀ v ∈ vs, BadT k H' v) → Q (.ref p) H') : SpThings K k [.int n] H Q E
theorem all_nil {P : V → Prop} : ∀ v ∈ ([] : List V), P v := fun v h => nomatch h
theorem all_cons {P : V → Prop} {x : V} {xs : List V} (h : P x) (t : ∀ v ∈ xs, P v) : ∀ v ∈ x :: xs, P v := fun v hv => by
  rcases List.mem_cons.mp hv with e | z
  · rw [e]
    exact h
  · exact t v z
theorem all_app {P : V → Prop} {xs ys : List V} (h : ∀ v ∈ xs, P v) (t : ∀ v ∈ ys, P v) : ∀ v ∈ xs ++ ys, P v := fun v hv => by
  rcases List.mem_append.mp hv with z | z
  · exact h v z
  · exact t v z
theorem sz_big {x : Int} (h0 : 0 < x) (h : x < 2000000000000000000000000000000000000000000000000000000000000) : Sz x := by
  refine ⟨h0, Bn.mono (n := 210) ⟨?_⟩ (by decide)⟩
  have l : (2000000000000000000000000000000000000000000000000000000000000 : Nat) < 2 ^ 210 := by decide
  omega
section
variable {P : Program} {w : World} {K : PySem.W.Frag} {mg : Str → Option Value} {base : Heap}

theorem H__law_bad_sizes (p : Pl K mg "_law_bad_sizes" s__law_bad_sizes) : Has P w K mg base CX0 1 "_law_bad_sizes" ["_law_cell"] (SpThings K .size) := by
  refine p.mk0 sc__law_bad_sizes (fun _ _ _ _ _ _ us hl => match us, hl with | [_], _ => rfl) (fun vs H Q E h => ?_) (fun f cdv A outer s H vs Q E hr h => ?_)
  · cases h; rfl
  · obtain @⟨n, _, _, _, h0, hn, q⟩ := h
    have p60 : (10 : Int) ^ 60 = 1000000000000000000000000000000000000000000000000000000000000 := by decide
    rw [p60] at hn
    refine ⟨_, (pss_one (ps_ret (pe_lst (pa_cons pe_non (pa_cons pe_int (pa_cons (pe_un un_neg pe_int) (pa_cons (pe_op op_sub (pe_un un_neg pe_int) (pv 0)) (pa_cons pe_bl (pa_cons pe_bl (pa_cons pe_str (pa_cons (pe_lst (pa_cons pe_int pa_nil)) (pa_cons (pe_tup (pa_cons pe_int pa_nil)) (pa_cons pe_dnewT pa_nil))))))))))))), ?_⟩
    walk_at "rd"
    intro t1 ht1
    generalize hH1 : upd H t1 _ = H1
    obtain ⟨sm1, up1⟩ := newH hH1 ht1
    clear hH1
    walk_at "rd"
    intro t2 ht2
    generalize hH2 : upd H1 t2 _ = H2
    obtain ⟨sm2, up2⟩ := newH hH2 ht2
    clear hH2
    walk_at "rd"
    intro t3 ht3
    generalize hH3 : upd H2 t3 _ = H3
    obtain ⟨sm3, up3⟩ := newH hH3 ht3
    clear hH3
    walk_at "rd"
    intro t4 ht4
    generalize hH4 : upd H3 t4 _ = H4
    obtain ⟨sm4, up4⟩ := newH hH4 ht4
    clear hH4
    exact q _ _ _ (sm1.trans (sm2.trans (sm3.trans (sm4)))) up4 (by simp) (by simp) (all_cons (BadS.kd .non (by decide)) (all_cons (BadS.low (by omega)) (all_cons (BadS.low (by omega)) (all_cons (BadS.low (by omega)) (all_cons (BadS.kd (.bl _) (by decide)) (all_cons (BadS.kd (.bl _) (by decide)) (all_cons (BadS.kd (.str _) (by decide)) (all_cons (BadS.kd (.lst (sm4 _ _ (sm3 _ _ (sm2 _ _ (up1))))) (by decide)) (all_cons (BadS.kd (.tup (sm4 _ _ (sm3 _ _ (up2)))) (by decide)) (all_cons (BadS.kd (.dct (sm4 _ _ (up3))) (by decide)) all_nil))))))))))
theorem H__law_bad_colours (p : Pl K mg "_law_bad_colours" s__law_bad_colours) : Has P w K mg base CX0 1 "_law_bad_colours" ["_law_cell"] (SpThings K .colour) := by
  refine p.mk0 sc__law_bad_colours (fun _ _ _ _ _ _ us hl => match us, hl with | [_], _ => rfl) (fun vs H Q E h => ?_) (fun f cdv A outer s H vs Q E hr h => ?_)
  · cases h; rfl
  · obtain @⟨n, _, _, _, h0, hn, q⟩ := h
    have p60 : (10 : Int) ^ 60 = 1000000000000000000000000000000000000000000000000000000000000 := by decide
    rw [p60] at hn
    refine ⟨_, (pss_one (ps_ret (pe_lst (pa_cons pe_non (pa_cons (pe_un un_neg pe_int) (pa_cons (pe_op op_sub (pe_un un_neg pe_int) (pv 0)) (pa_cons pe_int (pa_cons (pe_op op_add pe_int (pv 0)) (pa_cons pe_bl (pa_cons pe_bl (pa_cons pe_str (pa_cons (pe_lst (pa_cons pe_int pa_nil)) (pa_cons (pe_tup (pa_cons pe_int pa_nil)) (pa_cons pe_dnewT pa_nil)))))))))))))), ?_⟩
    walk_at "rd"
    intro t1 ht1
    generalize hH1 : upd H t1 _ = H1
    obtain ⟨sm1, up1⟩ := newH hH1 ht1
    clear hH1
    walk_at "rd"
    intro t2 ht2
    generalize hH2 : upd H1 t2 _ = H2
    obtain ⟨sm2, up2⟩ := newH hH2 ht2
    clear hH2
    walk_at "rd"
    intro t3 ht3
    generalize hH3 : upd H2 t3 _ = H3
    obtain ⟨sm3, up3⟩ := newH hH3 ht3
    clear hH3
    walk_at "rd"
    intro t4 ht4
    generalize hH4 : upd H3 t4 _ = H4
    obtain ⟨sm4, up4⟩ := newH hH4 ht4
    clear hH4
    exact q _ _ _ (sm1.trans (sm2.trans (sm3.trans (sm4)))) up4 (by simp) (by simp) (all_cons (BadK.kd .non (by decide)) (all_cons (BadK.out (by omega)) (all_cons (BadK.out (by omega)) (all_cons (BadK.out (by omega)) (all_cons (BadK.out (by omega)) (all_cons (BadK.kd (.bl _) (by decide)) (all_cons (BadK.kd (.bl _) (by decide)) (all_cons (BadK.kd (.str _) (by decide)) (all_cons (BadK.kd (.lst (sm4 _ _ (sm3 _ _ (sm2 _ _ (up1))))) (by decide)) (all_cons (BadK.kd (.tup (sm4 _ _ (sm3 _ _ (up2)))) (by decide)) (all_cons (BadK.kd (.dct (sm4 _ _ (up3))) (by decide)) all_nil)))))))))))
theorem H__law_great (p : Pl K mg "_law_great" s__law_great) : Has P w K mg base CX0 1 "_law_great" ["_law_cell"] (SpThings K .great) := by
  refine p.mk0 sc__law_great (fun _ _ _ _ _ _ us hl => match us, hl with | [_], _ => rfl) (fun vs H Q E h => ?_) (fun f cdv A outer s H vs Q E hr h => ?_)
  · cases h; rfl
  · obtain @⟨n, _, _, _, h0, hn, q⟩ := h
    have p60 : (10 : Int) ^ 60 = 1000000000000000000000000000000000000000000000000000000000000 := by decide
    rw [p60] at hn
    refine ⟨_, (pss_one (ps_ret (pe_lst (pa_cons (pe_tup (pa_cons pe_int (pa_cons pe_int pa_nil))) (pa_cons (pe_tup (pa_cons pe_int (pa_cons (pe_op op_add pe_int (pv 0)) pa_nil))) (pa_cons (pe_tup (pa_cons pe_int (pa_cons pe_int pa_nil))) (pa_cons (pe_tup (pa_cons pe_int (pa_cons (pe_op op_add pe_int (pv 0)) pa_nil))) (pa_cons (pe_tup (pa_cons (pe_op op_add pe_int (pv 0)) (pa_cons pe_int pa_nil))) pa_nil)))))))), ?_⟩
    walk_at "rd"
    intro t1 ht1
    generalize hH1 : upd H t1 _ = H1
    obtain ⟨sm1, up1⟩ := newH hH1 ht1
    clear hH1
    walk_at "rd"
    intro t2 ht2
    generalize hH2 : upd H1 t2 _ = H2
    obtain ⟨sm2, up2⟩ := newH hH2 ht2
    clear hH2
    walk_at "rd"
    intro t3 ht3
    generalize hH3 : upd H2 t3 _ = H3
    obtain ⟨sm3, up3⟩ := newH hH3 ht3
    clear hH3
    walk_at "rd"
    intro t4 ht4
    generalize hH4 : upd H3 t4 _ = H4
    obtain ⟨sm4, up4⟩ := newH hH4 ht4
    clear hH4
    walk_at "rd"
    intro t5 ht5
    generalize hH5 : upd H4 t5 _ = H5
    obtain ⟨sm5, up5⟩ := newH hH5 ht5
    clear hH5
    walk_at "rd"
    intro t6 ht6
    generalize hH6 : upd H5 t6 _ = H6
    obtain ⟨sm6, up6⟩ := newH hH6 ht6
    clear hH6
    exact q _ _ _ (sm1.trans (sm2.trans (sm3.trans (sm4.trans (sm5.trans (sm6)))))) up6 (by simp) (by simp) (all_cons (BadG.mk (sm6 _ _ (sm5 _ _ (sm4 _ _ (sm3 _ _ (sm2 _ _ (up1)))))) (sz_big (by omega) (by omega)) (sz_big (by omega) (by omega)) (by omega)) (all_cons (BadG.mk (sm6 _ _ (sm5 _ _ (sm4 _ _ (sm3 _ _ (up2))))) (sz_big (by omega) (by omega)) (sz_big (by omega) (by omega)) (by omega)) (all_cons (BadG.mk (sm6 _ _ (sm5 _ _ (sm4 _ _ (up3)))) (sz_big (by omega) (by omega)) (sz_big (by omega) (by omega)) (by omega)) (all_cons (BadG.mk (sm6 _ _ (sm5 _ _ (up4))) (sz_big (by omega) (by omega)) (sz_big (by omega) (by omega)) (by omega)) (all_cons (BadG.mk (sm6 _ _ (up5)) (sz_big (by omega) (by omega)) (sz_big (by omega) (by omega)) (by omega)) all_nil)))))
theorem H__law_bad_cells (p : Pl K mg "_law_bad_cells" s__law_bad_cells) : Has P w K mg base CX0 1 "_law_bad_cells" ["_law_cell"] (SpThings K .cell) := by
  refine p.mk0 sc__law_bad_cells (fun _ _ _ _ _ _ us hl => match us, hl with | [_], _ => rfl) (fun vs H Q E h => ?_) (fun f cdv A outer s H vs Q E hr h => ?_)
  · cases h; rfl
  · obtain @⟨n, _, _, _, h0, hn, q⟩ := h
    have p60 : (10 : Int) ^ 60 = 1000000000000000000000000000000000000000000000000000000000000 := by decide
    rw [p60] at hn
    refine ⟨_, (pss_cons (ps_set (i := 1) sc__law_bad_cells.nd rfl (Or.inl rfl) (pe_lst (pa_cons pe_non (pa_cons (pe_tup pa_nil) (pa_cons (pe_tup (pa_cons pe_int pa_nil)) (pa_cons (pe_tup (pa_cons pe_int (pa_cons pe_int (pa_cons pe_int pa_nil)))) (pa_cons (pe_lst (pa_cons pe_int (pa_cons pe_int pa_nil))) (pa_cons pe_str (pa_cons pe_int (pa_cons pe_dnewT (pa_cons (pe_tup (pa_cons pe_non (pa_cons pe_int pa_nil))) (pa_cons (pe_tup (pa_cons pe_int (pa_cons pe_str pa_nil))) (pa_cons (pe_tup (pa_cons pe_bl (pa_cons pe_int pa_nil))) (pa_cons (pe_tup (pa_cons pe_int (pa_cons pe_bl pa_nil))) (pa_cons (pe_tup (pa_cons (pe_lst (pa_cons pe_int pa_nil)) (pa_cons pe_int pa_nil))) pa_nil)))))))))))))))
      (pss_one (ps_ret (pe_op op_cat (pv 1) (pe_lst (pa_cons (pe_tup (pa_cons pe_int (pa_cons pe_int pa_nil))) (pa_cons (pe_tup (pa_cons pe_int (pa_cons pe_int pa_nil))) (pa_cons (pe_tup (pa_cons (pe_un un_neg pe_int) (pa_cons pe_int pa_nil))) (pa_cons (pe_tup (pa_cons pe_int (pa_cons (pe_un un_neg pe_int) pa_nil))) (pa_cons (pe_tup (pa_cons (pe_op op_add pe_int (pv 0)) (pa_cons pe_int pa_nil))) (pa_cons (pe_tup (pa_cons pe_int (pa_cons (pe_op op_add pe_int (pv 0)) pa_nil))) (pa_cons (pe_tup (pa_cons (pe_op op_sub (pe_un un_neg pe_int) (pv 0)) (pa_cons pe_int pa_nil))) (pa_cons (pe_tup (pa_cons pe_int (pa_cons (pe_op op_sub (pe_un un_neg pe_int) (pv 0)) pa_nil))) pa_nil))))))))))))), ?_⟩
    walk_at "rd"
    intro t1 ht1
    generalize hH1 : upd H t1 _ = H1
    obtain ⟨sm1, up1⟩ := newH hH1 ht1
    clear hH1
    walk_at "rd"
    intro t2 ht2
    generalize hH2 : upd H1 t2 _ = H2
    obtain ⟨sm2, up2⟩ := newH hH2 ht2
    clear hH2
    walk_at "rd"
    intro t3 ht3
    generalize hH3 : upd H2 t3 _ = H3
    obtain ⟨sm3, up3⟩ := newH hH3 ht3
    clear hH3
    walk_at "rd"
    intro t4 ht4
    generalize hH4 : upd H3 t4 _ = H4
    obtain ⟨sm4, up4⟩ := newH hH4 ht4
    clear hH4
    walk_at "rd"
    intro t5 ht5
    generalize hH5 : upd H4 t5 _ = H5
    obtain ⟨sm5, up5⟩ := newH hH5 ht5
    clear hH5
    walk_at "rd"
    intro t6 ht6
    generalize hH6 : upd H5 t6 _ = H6
    obtain ⟨sm6, up6⟩ := newH hH6 ht6
    clear hH6
    walk_at "rd"
    intro t7 ht7
    generalize hH7 : upd H6 t7 _ = H7
    obtain ⟨sm7, up7⟩ := newH hH7 ht7
    clear hH7
    walk_at "rd"
    intro t8 ht8
    generalize hH8 : upd H7 t8 _ = H8
    obtain ⟨sm8, up8⟩ := newH hH8 ht8
    clear hH8
    walk_at "rd"
    intro t9 ht9
    generalize hH9 : upd H8 t9 _ = H9
    obtain ⟨sm9, up9⟩ := newH hH9 ht9
    clear hH9
    walk_at "rd"
    intro t10 ht10
    generalize hH10 : upd H9 t10 _ = H10
    obtain ⟨sm10, up10⟩ := newH hH10 ht10
    clear hH10
    walk_at "rd"
    intro t11 ht11
    generalize hH11 : upd H10 t11 _ = H11
    obtain ⟨sm11, up11⟩ := newH hH11 ht11
    clear hH11
    walk_at "rd"
    intro t12 ht12
    generalize hH12 : upd H11 t12 _ = H12
    obtain ⟨sm12, up12⟩ := newH hH12 ht12
    clear hH12
    walk_at "rd"
    intro t13 ht13
    generalize hH13 : upd H12 t13 _ = H13
    obtain ⟨sm13, up13⟩ := newH hH13 ht13
    clear hH13
    walk_at "rd"
    intro t14 ht14
    generalize hH14 : upd H13 t14 _ = H14
    obtain ⟨sm14, up14⟩ := newH hH14 ht14
    clear hH14
    walk_at "rd"
    intro t15 ht15
    generalize hH15 : upd H14 t15 _ = H15
    obtain ⟨sm15, up15⟩ := newH hH15 ht15
    clear hH15
    walk_at "rd"
    intro t16 ht16
    generalize hH16 : upd H15 t16 _ = H16
    obtain ⟨sm16, up16⟩ := newH hH16 ht16
    clear hH16
    walk_at "rd"
    intro t17 ht17
    generalize hH17 : upd H16 t17 _ = H17
    obtain ⟨sm17, up17⟩ := newH hH17 ht17
    clear hH17
    walk_at "rd"
    intro t18 ht18
    generalize hH18 : upd H17 t18 _ = H18
    obtain ⟨sm18, up18⟩ := newH hH18 ht18
    clear hH18
    walk_at "rd"
    intro t19 ht19
    generalize hH19 : upd H18 t19 _ = H19
    obtain ⟨sm19, up19⟩ := newH hH19 ht19
    clear hH19
    walk_at "rd"
    intro t20 ht20
    generalize hH20 : upd H19 t20 _ = H20
    obtain ⟨sm20, up20⟩ := newH hH20 ht20
    clear hH20
    walk_at "rd"
    intro t21 ht21
    generalize hH21 : upd H20 t21 _ = H21
    obtain ⟨sm21, up21⟩ := newH hH21 ht21
    clear hH21
    refine ⟨t12, t21, _, _, rfl, rfl, (sm21 _ _ (sm20 _ _ (sm19 _ _ (sm18 _ _ (sm17 _ _ (sm16 _ _ (sm15 _ _ (sm14 _ _ (sm13 _ _ (up12)))))))))), up21, size4 (by simp), fun l hl => ?_⟩
    generalize hHL : upd H21 l _ = HL
    obtain ⟨smL, upL⟩ := newH hHL hl
    clear hHL
    walk_at "rd"
    exact q _ _ _ ((sm1.trans (sm2.trans (sm3.trans (sm4.trans (sm5.trans (sm6.trans (sm7.trans (sm8.trans (sm9.trans (sm10.trans (sm11.trans (sm12.trans (sm13.trans (sm14.trans (sm15.trans (sm16.trans (sm17.trans (sm18.trans (sm19.trans (sm20.trans (sm21))))))))))))))))))))).trans smL) upL (by simp) (by simp) fun v hv => BadC.mono (all_app (all_cons (BadC.kd .non (by decide)) (all_cons (BadC.len (sm21 _ _ (sm20 _ _ (sm19 _ _ (sm18 _ _ (sm17 _ _ (sm16 _ _ (sm15 _ _ (sm14 _ _ (sm13 _ _ (sm12 _ _ (sm11 _ _ (sm10 _ _ (sm9 _ _ (sm8 _ _ (sm7 _ _ (sm6 _ _ (sm5 _ _ (sm4 _ _ (sm3 _ _ (sm2 _ _ (up1))))))))))))))))))))) (by decide)) (all_cons (BadC.len (sm21 _ _ (sm20 _ _ (sm19 _ _ (sm18 _ _ (sm17 _ _ (sm16 _ _ (sm15 _ _ (sm14 _ _ (sm13 _ _ (sm12 _ _ (sm11 _ _ (sm10 _ _ (sm9 _ _ (sm8 _ _ (sm7 _ _ (sm6 _ _ (sm5 _ _ (sm4 _ _ (sm3 _ _ (up2)))))))))))))))))))) (by decide)) (all_cons (BadC.len (sm21 _ _ (sm20 _ _ (sm19 _ _ (sm18 _ _ (sm17 _ _ (sm16 _ _ (sm15 _ _ (sm14 _ _ (sm13 _ _ (sm12 _ _ (sm11 _ _ (sm10 _ _ (sm9 _ _ (sm8 _ _ (sm7 _ _ (sm6 _ _ (sm5 _ _ (sm4 _ _ (up3))))))))))))))))))) (by decide)) (all_cons (BadC.kd (.lst (sm21 _ _ (sm20 _ _ (sm19 _ _ (sm18 _ _ (sm17 _ _ (sm16 _ _ (sm15 _ _ (sm14 _ _ (sm13 _ _ (sm12 _ _ (sm11 _ _ (sm10 _ _ (sm9 _ _ (sm8 _ _ (sm7 _ _ (sm6 _ _ (sm5 _ _ (up4))))))))))))))))))) (by decide)) (all_cons (BadC.kd (.str _) (by decide)) (all_cons (BadC.kd (.int _) (by decide)) (all_cons (BadC.kd (.dct (sm21 _ _ (sm20 _ _ (sm19 _ _ (sm18 _ _ (sm17 _ _ (sm16 _ _ (sm15 _ _ (sm14 _ _ (sm13 _ _ (sm12 _ _ (sm11 _ _ (sm10 _ _ (sm9 _ _ (sm8 _ _ (sm7 _ _ (sm6 _ _ (up5)))))))))))))))))) (by decide)) (all_cons (BadC.fst (sm21 _ _ (sm20 _ _ (sm19 _ _ (sm18 _ _ (sm17 _ _ (sm16 _ _ (sm15 _ _ (sm14 _ _ (sm13 _ _ (sm12 _ _ (sm11 _ _ (sm10 _ _ (sm9 _ _ (sm8 _ _ (sm7 _ _ (up6)))))))))))))))) .non (by decide)) (all_cons (BadC.snd (sm21 _ _ (sm20 _ _ (sm19 _ _ (sm18 _ _ (sm17 _ _ (sm16 _ _ (sm15 _ _ (sm14 _ _ (sm13 _ _ (sm12 _ _ (sm11 _ _ (sm10 _ _ (sm9 _ _ (sm8 _ _ (up7))))))))))))))) (.str _) (by decide)) (all_cons (BadC.fst (sm21 _ _ (sm20 _ _ (sm19 _ _ (sm18 _ _ (sm17 _ _ (sm16 _ _ (sm15 _ _ (sm14 _ _ (sm13 _ _ (sm12 _ _ (sm11 _ _ (sm10 _ _ (sm9 _ _ (up8)))))))))))))) (.bl _) (by decide)) (all_cons (BadC.snd (sm21 _ _ (sm20 _ _ (sm19 _ _ (sm18 _ _ (sm17 _ _ (sm16 _ _ (sm15 _ _ (sm14 _ _ (sm13 _ _ (sm12 _ _ (sm11 _ _ (sm10 _ _ (up9))))))))))))) (.bl _) (by decide)) (all_cons (BadC.fst (sm21 _ _ (sm20 _ _ (sm19 _ _ (sm18 _ _ (sm17 _ _ (sm16 _ _ (sm15 _ _ (sm14 _ _ (sm13 _ _ (sm12 _ _ (up11))))))))))) (.lst (sm21 _ _ (sm20 _ _ (sm19 _ _ (sm18 _ _ (sm17 _ _ (sm16 _ _ (sm15 _ _ (sm14 _ _ (sm13 _ _ (sm12 _ _ (sm11 _ _ (up10))))))))))))) (by decide)) all_nil))))))))))))) (all_cons (BadC.out (sm21 _ _ (sm20 _ _ (sm19 _ _ (sm18 _ _ (sm17 _ _ (sm16 _ _ (sm15 _ _ (sm14 _ _ (up13))))))))) (by omega)) (all_cons (BadC.out (sm21 _ _ (sm20 _ _ (sm19 _ _ (sm18 _ _ (sm17 _ _ (sm16 _ _ (sm15 _ _ (up14)))))))) (by omega)) (all_cons (BadC.out (sm21 _ _ (sm20 _ _ (sm19 _ _ (sm18 _ _ (sm17 _ _ (sm16 _ _ (up15))))))) (by omega)) (all_cons (BadC.out (sm21 _ _ (sm20 _ _ (sm19 _ _ (sm18 _ _ (sm17 _ _ (up16)))))) (by omega)) (all_cons (BadC.out (sm21 _ _ (sm20 _ _ (sm19 _ _ (sm18 _ _ (up17))))) (by omega)) (all_cons (BadC.out (sm21 _ _ (sm20 _ _ (sm19 _ _ (up18)))) (by omega)) (all_cons (BadC.out (sm21 _ _ (sm20 _ _ (up19))) (by omega)) (all_cons (BadC.out (sm21 _ _ (up20)) (by omega)) all_nil)))))))) v hv) smL
end
end BF

/-! ### k07: what are no bricks -/
namespace BF
open PySem PySem.Spec PyProof.Rows L2
section
variable {P : Program} {w : World} {K : PySem.W.Frag} {mg : Str → Option Value} {base : Heap}
theorem H__law_bad_bricks (p : Pl K mg "_law_bad_bricks" s__law_bad_bricks) (B : Bi mg) : Has P w K mg base CX0 1 "_law_bad_bricks" ["_law_cell"] (SpThings K .bricks) := by
  refine p.mk0 sc__law_bad_bricks (fun _ _ _ _ _ _ us hl => match us, hl with | [_], _ => rfl) (fun vs H Q E h => ?_) (fun f cdv A outer s H vs Q E hr h => ?_)
  · cases h; rfl
  · obtain @⟨n, _, _, _, h0, hn, q⟩ := h
    refine ⟨_, (pss_cons (ps_set (i := 1) sc__law_bad_bricks.nd rfl (Or.inl rfl) (pe_lst (pa_cons pe_non (pa_cons pe_int (pa_cons (pe_tup (pa_cons pe_int (pa_cons pe_int pa_nil))) (pa_cons (pe_tup (pa_cons pe_int (pa_cons pe_int (pa_cons pe_bl (pa_cons pe_int pa_nil))))) (pa_cons (pe_lst (pa_cons pe_int (pa_cons pe_int (pa_cons pe_bl pa_nil)))) (pa_cons (pe_tup (pa_cons pe_int (pa_cons pe_int (pa_cons pe_int pa_nil)))) (pa_cons (pe_tup (pa_cons pe_int (pa_cons pe_int (pa_cons pe_non pa_nil)))) (pa_cons (pe_tup (pa_cons pe_str (pa_cons pe_int (pa_cons pe_bl pa_nil)))) (pa_cons (pe_tup (pa_cons pe_int (pa_cons pe_non (pa_cons pe_bl pa_nil)))) pa_nil)))))))))))
      (pss_cons (ps_set (i := 1) sc__law_bad_bricks.nd rfl (Or.inl rfl) (pe_op op_cat (pv 1) (pe_lst (pa_cons (pe_tup (pa_cons pe_bl (pa_cons pe_int (pa_cons pe_bl pa_nil)))) (pa_cons (pe_tup (pa_cons pe_int (pa_cons pe_bl (pa_cons pe_bl pa_nil)))) (pa_cons (pe_tup (pa_cons (pe_lst (pa_cons pe_int pa_nil)) (pa_cons pe_int (pa_cons pe_bl pa_nil)))) (pa_cons pe_str (pa_cons (pe_tup (pa_cons pe_int (pa_cons pe_int (pa_cons pe_int pa_nil)))) pa_nil))))))))
      (pss_cons (ps_setLc (i := 2) (own := [("_law_at", 3)]) (by rfl) sc__law_bad_bricks.nd rfl rfl (sw_true rfl rfl rfl (by decide +kernel)) (pi_range1 (by rfl) B.range (pa_cons pe_int pa_nil)) (blkOk_by (own := [("_law_at", 3)]) (N := ["_law_cell", "_law_bad", "_law_many", "_law_at", "_law_one"]) (sc := defScope s__law_bad_bricks) (by decide +kernel)) (fun _ _ _ _ _ => (pg_name (i := 3) sc__law_bad_bricks.nd rfl (Or.inl rfl))) (fun _ _ _ _ _ => pts_nil) (fun _ _ _ _ _ => (pe_tup (pa_cons (pv 3) (pa_cons (pv 0) (pa_cons (pe_cmpR op_eq (pe_op op_mod (pv 3) pe_int) pe_int (nomark _)) pa_nil))))))
      (pss_cons (ps_asg (pe_ix (r := rIxL K) ix_list (pv 1) (pe_op op_mod (pe_op op_fdivW (pv 0) pe_int) (pe_callB (r := rLen2 K) call_len_seq (by rfl) B.len PySem.boot_len (pa_cons (pv 1) pa_nil))) (fun _ _ => rfl)) (pg_sub (pv 2) (pe_op op_mod (pv 0) pe_int) set_list))
      (pss_one (ps_ret (pe_op op_cat (pe_op op_cat (pe_lst (pa_cons pe_non (pa_cons (pe_tup pa_nil) (pa_cons (pe_tup (pa_cons (pe_tup (pa_cons pe_int (pa_cons pe_int (pa_cons pe_bl pa_nil)))) pa_nil)) (pa_cons pe_str (pa_cons pe_dnewT (pa_cons pe_int pa_nil))))))) (pe_lc (own := [("_law_one", 4)]) (by rfl) sc__law_bad_bricks.nd (pi_list (pv 1)) (blkOk_by (own := [("_law_one", 4)]) (N := ["_law_cell", "_law_bad", "_law_many", "_law_at", "_law_one"]) (sc := defScope s__law_bad_bricks) (by decide +kernel)) (fun _ _ _ _ _ => (pg_name (i := 4) sc__law_bad_bricks.nd rfl (Or.inl rfl))) (fun _ _ _ _ _ => pts_nil) (fun _ _ _ _ _ => (pe_lst (pa_cons (pv 4) pa_nil))))) (pe_lst (pa_cons (pv 2) pa_nil))))))))), ?_⟩
    walk_at "rd"
    intro t1 ht1
    generalize hH1 : upd H t1 _ = H1
    obtain ⟨sm1, up1⟩ := newH hH1 ht1
    clear hH1
    walk_at "rd"
    intro t2 ht2
    generalize hH2 : upd H1 t2 _ = H2
    obtain ⟨sm2, up2⟩ := newH hH2 ht2
    clear hH2
    walk_at "rd"
    intro t3 ht3
    generalize hH3 : upd H2 t3 _ = H3
    obtain ⟨sm3, up3⟩ := newH hH3 ht3
    clear hH3
    walk_at "rd"
    intro t4 ht4
    generalize hH4 : upd H3 t4 _ = H4
    obtain ⟨sm4, up4⟩ := newH hH4 ht4
    clear hH4
    walk_at "rd"
    intro t5 ht5
    generalize hH5 : upd H4 t5 _ = H5
    obtain ⟨sm5, up5⟩ := newH hH5 ht5
    clear hH5
    walk_at "rd"
    intro t6 ht6
    generalize hH6 : upd H5 t6 _ = H6
    obtain ⟨sm6, up6⟩ := newH hH6 ht6
    clear hH6
    walk_at "rd"
    intro t7 ht7
    generalize hH7 : upd H6 t7 _ = H7
    obtain ⟨sm7, up7⟩ := newH hH7 ht7
    clear hH7
    walk_at "rd"
    intro t8 ht8
    generalize hH8 : upd H7 t8 _ = H8
    obtain ⟨sm8, up8⟩ := newH hH8 ht8
    clear hH8
    walk_at "rd"
    intro t9 ht9
    generalize hH9 : upd H8 t9 _ = H9
    obtain ⟨sm9, up9⟩ := newH hH9 ht9
    clear hH9
    walk_at "rd"
    intro t10 ht10
    generalize hH10 : upd H9 t10 _ = H10
    obtain ⟨sm10, up10⟩ := newH hH10 ht10
    clear hH10
    walk_at "rd"
    intro t11 ht11
    generalize hH11 : upd H10 t11 _ = H11
    obtain ⟨sm11, up11⟩ := newH hH11 ht11
    clear hH11
    walk_at "rd"
    intro t12 ht12
    generalize hH12 : upd H11 t12 _ = H12
    obtain ⟨sm12, up12⟩ := newH hH12 ht12
    clear hH12
    walk_at "rd"
    intro t13 ht13
    generalize hH13 : upd H12 t13 _ = H13
    obtain ⟨sm13, up13⟩ := newH hH13 ht13
    clear hH13
    walk_at "rd"
    intro t14 ht14
    generalize hH14 : upd H13 t14 _ = H14
    obtain ⟨sm14, up14⟩ := newH hH14 ht14
    clear hH14
    refine ⟨t8, t14, _, _, rfl, rfl, (sm14 _ _ (sm13 _ _ (sm12 _ _ (sm11 _ _ (sm10 _ _ (sm9 _ _ (up8))))))), up14, size4 (by simp), fun l hl => ?_⟩
    generalize hHL : upd H14 l _ = HL
    obtain ⟨smL, upL⟩ := newH hHL hl
    clear hHL
    have sL : Same H HL := (sm1.trans (sm2.trans (sm3.trans (sm4.trans (sm5.trans (sm6.trans (sm7.trans (sm8.trans (sm9.trans (sm10.trans (sm11.trans (sm12.trans (sm13.trans (sm14)))))))))))))).trans smL
    obtain ⟨bl, ebl, lbl, hbad⟩ : ∃ bl, HL l = some (.lst bl) ∧ bl.length = 14 ∧ ∀ v ∈ bl, BrK HL v false := ⟨_, upL, rfl, fun v hv => (all_app (P := fun v => BrK H14 v false) (all_cons (BrK.kd .non (by decide)) (all_cons (BrK.kd (.int _) (by decide)) (all_cons (BrK.len (sm14 _ _ (sm13 _ _ (sm12 _ _ (sm11 _ _ (sm10 _ _ (sm9 _ _ (sm8 _ _ (sm7 _ _ (sm6 _ _ (sm5 _ _ (sm4 _ _ (sm3 _ _ (sm2 _ _ (up1)))))))))))))) (by decide)) (all_cons (BrK.len (sm14 _ _ (sm13 _ _ (sm12 _ _ (sm11 _ _ (sm10 _ _ (sm9 _ _ (sm8 _ _ (sm7 _ _ (sm6 _ _ (sm5 _ _ (sm4 _ _ (sm3 _ _ (up2))))))))))))) (by decide)) (all_cons (BrK.kd (.lst (sm14 _ _ (sm13 _ _ (sm12 _ _ (sm11 _ _ (sm10 _ _ (sm9 _ _ (sm8 _ _ (sm7 _ _ (sm6 _ _ (sm5 _ _ (sm4 _ _ (up3))))))))))))) (by decide)) (all_cons (BrK.trd (sm14 _ _ (sm13 _ _ (sm12 _ _ (sm11 _ _ (sm10 _ _ (sm9 _ _ (sm8 _ _ (sm7 _ _ (sm6 _ _ (sm5 _ _ (up4))))))))))) (.int _) (by decide)) (all_cons (BrK.trd (sm14 _ _ (sm13 _ _ (sm12 _ _ (sm11 _ _ (sm10 _ _ (sm9 _ _ (sm8 _ _ (sm7 _ _ (sm6 _ _ (up5)))))))))) .non (by decide)) (all_cons (BrK.fst (sm14 _ _ (sm13 _ _ (sm12 _ _ (sm11 _ _ (sm10 _ _ (sm9 _ _ (sm8 _ _ (sm7 _ _ (up6))))))))) (.str _) (by decide)) (all_cons (BrK.snd (sm14 _ _ (sm13 _ _ (sm12 _ _ (sm11 _ _ (sm10 _ _ (sm9 _ _ (sm8 _ _ (up7)))))))) .non (by decide)) all_nil))))))))) (all_cons (BrK.fst (sm14 _ _ (sm13 _ _ (sm12 _ _ (sm11 _ _ (sm10 _ _ (up9)))))) (.bl _) (by decide)) (all_cons (BrK.snd (sm14 _ _ (sm13 _ _ (sm12 _ _ (sm11 _ _ (up10))))) (.bl _) (by decide)) (all_cons (BrK.fst (sm14 _ _ (sm13 _ _ (up12))) (.lst (sm14 _ _ (sm13 _ _ (sm12 _ _ (up11))))) (by decide)) (all_cons (BrK.kd (.str _) (by decide)) (all_cons (BrK.trd (sm14 _ _ (up13)) (.int _) (by decide)) all_nil))))) v hv).mono smL⟩
    walk_at "rd"
    intro D hD
    refine lc_range (lo := 0) (n := 9) (fun j H' => Same HL H' ∧ ∃ xs, H' D = some (.lst xs) ∧ xs.length = j ∧ ∀ v ∈ xs, BrK H' v true) ⟨same_upd hD, [], upd_same, rfl, fun v hv => nomatch hv⟩ ?_ ?_
    · rintro j H1 hj ⟨sm1, xs, eD, lx, hx⟩
      refine ⟨rfl, lc_yes ?_⟩
      walk_at "rd"
      intro t ht
      have e4 := same_upd (o := .tup [.int (0 + (j : Int)), .int n, .bl (decide (V.int ((0 + (j : Int)) % 2) = V.int 0))]) ht _ _ eD
      refine ⟨xs, e4, by rw [lx]; exact Nat.lt_trans hj (by decide), same_mut2 (sm1.trans (same_upd ht)) hD, xs ++ [.ref t], upd_same, by rw [List.length_append, lx]; rfl, fun v hv => ?_⟩
      have z : BrK (upd H1 t (.tup [.int (0 + (j : Int)), .int n, .bl (decide (V.int ((0 + (j : Int)) % 2) = V.int 0))])) v true := by
        rcases List.mem_append.mp hv with z | z
        · exact (hx v z).mono (same_upd ht)
        · rw [List.mem_singleton.mp z]
          exact .good upd_same
      cases z with
      | @good a x y b h =>
        refine .good (x := x) (y := y) (l := b) ?_
        rw [upd_ne (ne_of h e4 (by intro z; cases z))]
        exact h
    rintro H1 ⟨sm1, xs, eD, lx, hx⟩
    have ebl1 := sm1 _ _ ebl
    obtain ⟨k, hk⟩ := Int.eq_ofNat_of_zero_le (show 0 ≤ n / 9 % 14 by omega)
    have hk14 : k < bl.length := by omega
    have hkv : bl[k]? = some bl[k] := List.getElem?_eq_getElem hk14
    have hkb := hbad _ (List.getElem_mem hk14)
    obtain ⟨i, hi⟩ := Int.eq_ofNat_of_zero_le (show 0 ≤ n % 9 by omega)
    have hi9 : i < xs.length := by omega
    walk_at "rd"
    refine ⟨l, _, rfl, .inl (sqL ebl1), ?_⟩
    rw [lbl]
    walk_at "rd"
    refine ⟨l, _, _, bl[k], rfl, rfl, sqL ebl1, (by
      show atI bl (n / 9 % 14) = _
      rw [hk]
      exact atI_nat hkv), ?_⟩
    walk_at "rd"
    refine ⟨D, _, _, i, rfl, rfl, eD, (by rw [hi]; exact Evl.ixN_nat hi9), ?_⟩
    have sm2 : Same HL (upd H1 D (.lst (xs.set i bl[k]))) := same_mut2 sm1 hD
    have eD2 : (upd H1 D (.lst (xs.set i bl[k]))) D = some (.lst (xs.set i bl[k])) := upd_same
    have hx2 : ∀ v ∈ xs, BrK (upd H1 D (.lst (xs.set i bl[k]))) v true := fun v hv => by
      cases hx v hv with
      | @good a x y b h =>
        refine .good (x := x) (y := y) (l := b) ?_
        rw [upd_ne (ne_of h eD (by intro z; cases z))]
        exact h
    generalize upd H1 D (.lst (xs.set i bl[k])) = H2 at sm2 eD2 hx2 ⊢
    have hmany : BadB H2 (.ref D) := by
      refine .lst (bs := (List.replicate 9 true).set i false) eD2 (by rw [List.length_set]; omega) ⟨by rw [List.length_set, List.length_set, List.length_replicate, lx], fun m v b h1 h2 => ?_⟩ ?_
      · by_cases e : i = m
        · subst e
          rw [List.getElem?_set_self hi9] at h1
          rw [List.getElem?_set_self (by rw [List.length_replicate]; omega)] at h2
          cases h1
          cases h2
          exact hkb.mono sm2
        · rw [List.getElem?_set_ne e] at h1 h2
          have hb : b = true := (List.mem_replicate.mp (List.mem_of_getElem? h2)).2
          rw [hb]
          exact hx2 v (List.mem_of_getElem? h1)
      · refine List.all_eq_false.mpr ⟨false, ?_, by decide⟩
        exact List.mem_of_getElem? (List.getElem?_set_self (by rw [List.length_replicate]; omega))
    walk_at "rd"
    intro u1 hu1
    generalize hH3 : upd H2 u1 _ = H3
    obtain ⟨sm3, up3⟩ : Same H2 H3 ∧ H3 u1 = some (.tup []) := newH hH3 hu1
    clear hH3
    walk_at "rd"
    intro u2 hu2
    generalize hH4 : upd H3 u2 _ = H4
    obtain ⟨sm4, up4⟩ := newH hH4 hu2
    clear hH4
    walk_at "rd"
    intro u3 hu3
    generalize hH5 : upd H4 u3 _ = H5
    obtain ⟨sm5, up5⟩ : Same H4 H5 ∧ H5 u3 = some (.tup [.ref u2]) := newH hH5 hu3
    clear hH5
    walk_at "rd"
    intro u4 hu4
    generalize hH6 : upd H5 u4 _ = H6
    obtain ⟨sm6, up6⟩ : Same H5 H6 ∧ H6 u4 = some (.dT []) := newH hH6 hu4
    clear hH6
    walk_at "rd"
    intro u5 hu5
    generalize hH7 : upd H6 u5 _ = H7
    obtain ⟨sm7, up7⟩ : Same H6 H7 ∧ H7 u5 = some (.lst [.non, .ref u1, .ref u3, .str "0", .ref u4, .int 5]) := newH hH7 hu5
    clear hH7
    have s27 := sm3.trans (sm4.trans (sm5.trans (sm6.trans sm7)))
    have sL7 := sm2.trans s27
    have ebl7 := sL7 _ _ ebl
    walk_at "rd"
    refine ⟨⟨_, sqL ebl7⟩, fun D2 hD2 => ?_⟩
    refine lc_list (K := K) (a := l) (xs := bl) (fun j H' => Same H7 H' ∧ ∃ ts : List Addr, H' D2 = some (.lst (ts.map V.ref)) ∧ ts.length = j ∧ ∀ t ∈ ts, t ≠ D2 ∧ ∃ x ∈ bl, H' t = some (.lst [x])) ⟨same_upd hD2, [], upd_same, rfl, fun t ht => nomatch ht⟩ (fun j H' _ ⟨sm, _⟩ => sqL (sm _ _ ebl7)) ?_ ?_
    · rintro j x H8 hj ⟨sm8, ts, eD8, lt, hts⟩
      have hlt := (List.getElem?_eq_some_iff.mp hj).1
      refine ⟨rfl, lc_yes ?_⟩
      walk_at "rd"
      intro t ht
      have ntD : t ≠ D2 := fun z => by rw [z, eD8] at ht; cases ht
      have e8 := same_upd (o := .lst [x]) ht _ _ eD8
      refine ⟨_, e8, by rw [List.length_map, lt]; exact Nat.lt_trans hlt (by rw [lbl]; decide), same_mut2 (sm8.trans (same_upd ht)) hD2, ts ++ [t], by rw [upd_same, List.map_append]; rfl, by rw [List.length_append, lt]; rfl, fun t' ht' => ?_⟩
      rcases List.mem_append.mp ht' with z | z
      · obtain ⟨n1, x', hx', h'⟩ := hts t' z
        refine ⟨n1, x', hx', ?_⟩
        rw [upd_ne n1]
        exact same_upd ht _ _ h'
      · rw [List.mem_singleton.mp z]
        refine ⟨ntD, x, List.mem_of_getElem? hj, ?_⟩
        rw [upd_ne ntD]
        exact upd_same
    rintro H8 ⟨sm8, ts, eD8, lt, hts⟩
    have sL8 := sL7.trans sm8
    refine ⟨u5, D2, _, _, rfl, rfl, sm8 _ _ up7, eD8, by rw [List.length_map, lt, lbl]; exact size4 (by simp), fun l6 hl6 => ?_⟩
    generalize hH9 : upd H8 l6 _ = H9
    obtain ⟨sm9, up9⟩ := newH hH9 hl6
    clear hH9
    walk_at "rd"
    intro l7 hl7
    generalize hH10 : upd H9 l7 _ = H10
    obtain ⟨sm10, up10⟩ : Same H9 H10 ∧ H10 l7 = some (.lst [.ref D]) := newH hH10 hl7
    clear hH10
    refine ⟨l6, l7, _, _, rfl, rfl, sm10 _ _ up9, up10, by rw [List.length_append, List.length_map, lt, lbl]; exact size4 (by simp), fun l8 hl8 => ?_⟩
    generalize hH11 : upd H10 l8 _ = H11
    obtain ⟨sm11, up11⟩ := newH hH11 hl8
    clear hH11
    have s811 := sm9.trans (sm10.trans sm11)
    have s711 := sm8.trans s811
    walk_at "rd"
    refine q _ _ _ (sL.trans (sL8.trans s811)) up11 (by simp) (by rw [List.length_append, List.length_append, List.length_map, lt, lbl]; simp) ?_
    refine all_app (all_app ?_ fun v hv => ?_) ?_
    · exact all_cons (P := BadB H11) (.kd .non (by decide)) (all_cons (.kd (.tup (s711 _ _ (sm7 _ _ (sm6 _ _ (sm5 _ _ (sm4 _ _ up3)))))) (by decide)) (all_cons (.kd (.tup (s711 _ _ (sm7 _ _ (sm6 _ _ up5)))) (by decide)) (all_cons (.kd (.str _) (by decide)) (all_cons (.kd (.dct (s711 _ _ (sm7 _ _ up6))) (by decide)) (all_cons (.kd (.int _) (by decide)) all_nil)))))
    · obtain ⟨t, ht, rfl⟩ := List.mem_map.mp hv
      obtain ⟨_, x, hx, h⟩ := hts t ht
      have hxb := (hbad x hx).mono (sL8.trans s811)
      refine BadB.lst (bs := [false]) (s811 _ _ h) (by simp) ⟨rfl, fun m v b h1 h2 => ?_⟩ rfl
      cases m with
      | zero =>
        cases h1
        cases h2
        exact hxb
      | succ m => cases h1
    · exact all_cons (P := BadB H11) (hmany.mono' (s27.trans s711)) all_nil
end
end BF

/-! ### the law k07 -/
namespace BF
open PySem PySem.Spec PyProof.Rows L2
def Kn.thg : Kn → Str
  | .size => "_law_bad_sizes"
  | .cell => "_law_bad_cells"
  | .colour => "_law_bad_colours"
  | .bricks => "_law_bad_bricks"
  | .great => "_law_great"
def ThgS (K : PySem.W.Frag) (f : Addr) (sp : Sp) : Prop := ∃ k : Kn, f = He.ga K k.thg ∧ sp = SpThings K k
theorem thg_held {P : Program} {w : World} {K : PySem.W.Frag} {mg : Str → Option Value} {base : Heap} (g : ∀ k : Kn, mg k.thg = some (.ref (He.ga K k.thg))) (h : ∀ k : Kn, Has P w K mg base CX0 1 k.thg ["_law_cell"] (SpThings K k)) :
    ∀ f sp, ThgS K f sp → ∃ fd ps, FnOk P w K mg base CX0 1 f fd ps sp ∧ PySem.W.keepIn K (.ref f) = true ∧ Binds K fd ps [] := by
  rintro f sp ⟨k, rfl, rfl⟩
  obtain ⟨f', fd, F, hm, hk, hb, _⟩ := h k
  have e : f' = He.ga K k.thg := by
    have z := hm.symm.trans (g k)
    cases z
    rfl
  subst e
  exact ⟨fd, _, F, hk, hb⟩
/-- one row of the kinds -/
def RowAt (K : PySem.W.Frag) (H : Hp) (v : V) : Prop := ∃ (k : Kn) (t : Addr), v = .ref t ∧ H t = some (.tup [.ref (He.ga K k.ask), .int k.doors, .ref (He.ga K k.thg), .int k.due])
theorem RowAt.mono {K : PySem.W.Frag} {H H' : Hp} {v : V} (h : RowAt K H v) (sm : Same H H') : RowAt K H' v := let ⟨k, t, e, h⟩ := h; ⟨k, t, e, sm _ _ h⟩
inductive L7A (a : Addr) (H : Hp) : L2.St → Hp → Prop where
  | mk {H' : Hp} {y1 y2 y3 y4 y5 y6 y7 y8 : Option V} (sm : Same H H') : L7A a H [some (.ref a), y1, y2, y3, y4, y5, y6, y7, y8, none] H'
inductive L7B (K : PySem.W.Frag) (k : Kn) (a : Addr) (H : Hp) : L2.St → Hp → Prop where
  | mk {H' : Hp} {y1 y6 y7 y8 : Option V} (sm : Same H H') : L7B K k a H [some (.ref a), y1, some (.ref (He.ga K k.ask)), some (.int k.doors), some (.ref (He.ga K k.thg)), some (.int k.due), y6, y7, y8, none] H'
theorem gN2 {i : Nat} {v : V} {σ σ' : L2.St} {H : Hp} {Q : L2.St → Hp → Prop} (e : σ.set i (some v) = σ') (h : Q σ' H) : gName i v σ H Q := by
  subst e
  exact h
theorem doors_pos (k : Kn) : 0 < k.doors ∧ k.doors ≤ 26 := by cases k <;> decide
theorem brick_1 : brickP 1 1 1 1 (0, 0) = ⟨0, 0, true⟩ := by
  have e : planP 1 1 1 1 = (1, 1) := by
    unfold planP
    rw [if_pos ⟨by decide, by decide⟩]
  unfold brickP
  rw [e, if_pos ⟨by decide, by decide⟩]
  rfl
theorem free_1 : Free 1 1 1 1 := free_of3 (m := 1) (n := 0) (u := 1) (v := 0) (by decide) (by decide) (.inl (by decide)) (.inl (by decide)) ⟨by decide, by decide, by decide⟩ ⟨by decide, by decide, by decide⟩
section
variable {P : Program} {w : World} {K : PySem.W.Frag} {mg : Str → Option Value} {base : Heap}
theorem H_law (p : Pl K mg "law" s_law) (B : Bi mg) (g_ask : ∀ k : Kn, mg k.ask = some (.ref (He.ga K k.ask))) (g_thg : ∀ k : Kn, mg k.thg = some (.ref (He.ga K k.thg)))
    (a_thg : ∀ f sp, ThgS K f sp → ∃ fd ps, FnOk P w K mg base CX0 1 f fd ps sp ∧ PySem.W.keepIn K (.ref f) = true ∧ Binds K fd ps []) (h__law_due : Has P w K mg base CX0 7 "_law_due" ["_law_ask", "_law_door", "_law_thing", "_law_due_here"] (SpDue7 K))
    (h_alike : Has P w K mg base CX0 3 "alike" ["length", "width", "size", "colour"] SpAlike) (h_lying : Has P w K mg base CX0 5 "lying" ["length", "width", "first", "second"] SpLying) (h_brick_on : Has P w K mg base CX0 5 "brick_on" ["length", "width", "first", "second", "cell"] SpBrickOn) :
    Has P w K mg base CX0 8 "law" ["_law_script"] (SpLaw K) := by
  refine p.mk0 sc_law (fun _ _ _ _ _ _ us hl => match us, hl with | [_], _ => rfl) (fun vs H Q E h => ?_) (fun f cdv A outer s H vs Q E hr h => ?_)
  · cases h; rfl
  · obtain @⟨a, ns, _, _, _, hl, hbits, hS, q⟩ := h
    refine ⟨_, (pss_cons (ps_set (i := 1) sc_law.nd rfl (Or.inl rfl) (pe_lst (pa_cons (pe_tup (pa_cons (pe_glob (v := .ref (He.ga _ (Kn.ask .size))) (by rfl) (g_ask .size) rfl) (pa_cons pe_int (pa_cons (pe_glob (v := .ref (He.ga _ (Kn.thg .size))) (by rfl) (g_thg .size) rfl) (pa_cons pe_int pa_nil))))) (pa_cons (pe_tup (pa_cons (pe_glob (v := .ref (He.ga _ (Kn.ask .cell))) (by rfl) (g_ask .cell) rfl) (pa_cons pe_int (pa_cons (pe_glob (v := .ref (He.ga _ (Kn.thg .cell))) (by rfl) (g_thg .cell) rfl) (pa_cons pe_int pa_nil))))) pa_nil))))
      (pss_cons (ps_set (i := 1) sc_law.nd rfl (Or.inl rfl) (pe_op op_cat (pv 1) (pe_lst (pa_cons (pe_tup (pa_cons (pe_glob (v := .ref (He.ga _ (Kn.ask .colour))) (by rfl) (g_ask .colour) rfl) (pa_cons pe_int (pa_cons (pe_glob (v := .ref (He.ga _ (Kn.thg .colour))) (by rfl) (g_thg .colour) rfl) (pa_cons pe_int pa_nil))))) (pa_cons (pe_tup (pa_cons (pe_glob (v := .ref (He.ga _ (Kn.ask .bricks))) (by rfl) (g_ask .bricks) rfl) (pa_cons pe_int (pa_cons (pe_glob (v := .ref (He.ga _ (Kn.thg .bricks))) (by rfl) (g_thg .bricks) rfl) (pa_cons pe_int pa_nil))))) pa_nil)))))
      (pss_cons (ps_for PassesOwn.never (by rfl) (pi_list (pe_op op_cat (pv 1) (pe_lst (pa_cons (pe_tup (pa_cons (pe_glob (v := .ref (He.ga _ (Kn.ask .great))) (by rfl) (g_ask .great) rfl) (pa_cons pe_int (pa_cons (pe_glob (v := .ref (He.ga _ (Kn.thg .great))) (by rfl) (g_thg .great) rfl) (pa_cons pe_int pa_nil))))) pa_nil)))) (pg_tup (by rfl) (pgs_cons (pg_name (i := 2) sc_law.nd rfl (Or.inr rfl)) (pgs_cons (pg_name (i := 3) sc_law.nd rfl (Or.inl rfl)) (pgs_cons (pg_name (i := 4) sc_law.nd rfl (Or.inl rfl)) (pgs_cons (pg_name (i := 5) sc_law.nd rfl (Or.inr rfl)) pgs_nil))))) (pss_cons (ps_for PassesOwn.never (by rfl) (pi_range1 (by rfl) B.range (pa_cons (pv 3) pa_nil)) (pg_name (i := 6) sc_law.nd rfl (Or.inr rfl)) (pss_one (ps_if (pt_not (pt_val (pe_callB (cr_all rfl) (by rfl) B.all (by decide +kernel) (pa_cons (pe_lc (own := [("_law_thing", 9)]) (by rfl) sc_law.nd (pi_list (pe_callAS (i := 4) (S := ThgS K) (E := fun _ => E0) a_thg (hr.mono (by decide)) rfl (.inl rfl) (fun σ => passAt0) (pa_cons (pe_callB (r := rLen2 K) call_len_seq (by rfl) B.len PySem.boot_len (pa_cons (pv 0) pa_nil)) pa_nil))) (blkOk_by (own := [("_law_thing", 9)]) (N := ["_law_script", "_law_kinds", "_law_ask", "_law_doors", "_law_things", "_law_due_here", "_law_door", "_law_cell", "_law_some", "_law_thing"]) (sc := defScope s_law) (by decide +kernel)) (fun _ _ _ _ _ => (pg_name (i := 9) sc_law.nd rfl (Or.inl rfl))) (fun _ _ _ _ _ => pts_nil) (fun _ _ _ _ _ => (pe_fn h__law_due (hr.mono (by decide)) pass0 (pa_cons (pv 2) (pa_cons (pv 6) (pa_cons (pv 9) (pa_cons (pv 5) pa_nil))))))) pa_nil)))) (pss_one (ps_ret pe_bl)) pss_nil)))
      (pss_one (ps_for PassesOwn.never (by rfl) (pi_list (pv 0)) (pg_name (i := 7) sc_law.nd rfl (Or.inl rfl)) (pss_cons (ps_set (i := 8) sc_law.nd rfl (Or.inl rfl) (pe_callAS (i := 4) (S := ThgS K) (E := fun _ => E0) a_thg (hr.mono (by decide)) rfl (.inl rfl) (fun σ => passAt0) (pa_cons (pe_op op_mod (pv 7) (pe_op op_pow pe_int pe_int)) pa_nil)))
      (pss_one (ps_if (pt_not (pt_val (pe_fn h__law_due (hr.mono (by decide)) pass0 (pa_cons (pv 2) (pa_cons (pe_op op_mod (pv 7) (pv 3)) (pa_cons (pe_ix (r := rIxL K) ix_list (pv 8) (pe_op op_mod (pe_op op_fdivW (pv 7) pe_int) (pe_callB (r := rLen2 K) call_len_seq (by rfl) B.len PySem.boot_len (pa_cons (pv 8) pa_nil))) (fun _ _ => rfl)) (pa_cons (pv 5) pa_nil))))))) (pss_one (ps_ret pe_bl)) pss_nil)))))))
      (pss_one (ps_ret (pe_and (pe_cmpR op_eq (pe_fn h_alike (hr.mono (by decide)) pass0 (pa_cons pe_int (pa_cons pe_int (pa_cons pe_int (pa_cons pe_int pa_nil))))) pe_int (nomark _)) (pe_and (pe_cmpR op_eq (pe_fn h_lying (hr.mono (by decide)) pass0 (pa_cons pe_int (pa_cons pe_int (pa_cons pe_int (pa_cons pe_int pa_nil))))) pe_int (nomark _)) (pe_one (pe_cmpR (r := rEqD K) (op_eqD hr.units) (pe_fn h_brick_on (hr.mono (by decide)) pass0 (pa_cons pe_int (pa_cons pe_int (pa_cons pe_int (pa_cons pe_int (pa_cons (pe_tup (pa_cons pe_int (pa_cons pe_int pa_nil))) pa_nil)))))) (pe_tup (pa_cons (pe_tup (pa_cons pe_int (pa_cons pe_int pa_nil))) (pa_cons pe_bl pa_nil))) (nomark _)))))))))), ?_⟩
    walk_at "rd"
    intro t1 ht1
    generalize hH1 : upd H t1 _ = H1
    obtain ⟨sm1, up1⟩ := newH hH1 ht1
    clear hH1
    walk_at "rd"
    intro t2 ht2
    generalize hH2 : upd H1 t2 _ = H2
    obtain ⟨sm2, up2⟩ := newH hH2 ht2
    clear hH2
    walk_at "rd"
    intro l3 hl3
    generalize hH3 : upd H2 l3 _ = H3
    obtain ⟨sm3, up3⟩ := newH hH3 hl3
    clear hH3
    walk_at "rd"
    intro t4 ht4
    generalize hH4 : upd H3 t4 _ = H4
    obtain ⟨sm4, up4⟩ := newH hH4 ht4
    clear hH4
    walk_at "rd"
    intro t5 ht5
    generalize hH5 : upd H4 t5 _ = H5
    obtain ⟨sm5, up5⟩ := newH hH5 ht5
    clear hH5
    walk_at "rd"
    intro l6 hl6
    generalize hH6 : upd H5 l6 _ = H6
    obtain ⟨sm6, up6⟩ := newH hH6 hl6
    clear hH6
    refine ⟨l3, l6, _, _, rfl, rfl, sm6 _ _ (sm5 _ _ (sm4 _ _ up3)), up6, size4 (by simp), fun l7 hl7 => ?_⟩
    generalize hH7 : upd H6 l7 _ = H7
    obtain ⟨sm7, up7⟩ := newH hH7 hl7
    clear hH7
    walk_at "rd"
    intro t8 ht8
    generalize hH8 : upd H7 t8 _ = H8
    obtain ⟨sm8, up8⟩ := newH hH8 ht8
    clear hH8
    walk_at "rd"
    intro l9 hl9
    generalize hH9 : upd H8 l9 _ = H9
    obtain ⟨sm9, up9⟩ := newH hH9 hl9
    clear hH9
    refine ⟨l7, l9, _, _, rfl, rfl, sm9 _ _ (sm8 _ _ up7), up9, size4 (by simp), fun l10 hl10 => ?_⟩
    generalize hH10 : upd H9 l10 _ = H10
    obtain ⟨sm10, up10⟩ : Same H9 H10 ∧ H10 l10 = some (.lst [.ref t1, .ref t2, .ref t4, .ref t5, .ref t8]) := newH hH10 hl10
    clear hH10
    have s810 := sm9.trans sm10
    have s710 := sm8.trans s810
    have s510 := sm6.trans (sm7.trans s710)
    have s210 := sm3.trans (sm4.trans (sm5.trans s510))
    have s010 := sm1.trans (sm2.trans s210)
    have rows : ∀ v ∈ [V.ref t1, V.ref t2, V.ref t4, V.ref t5, V.ref t8], RowAt K H10 v := by
      intro v hv
      have e : v = .ref t1 ∨ v = .ref t2 ∨ v = .ref t4 ∨ v = .ref t5 ∨ v = .ref t8 := by simpa using hv
      rcases e with rfl | rfl | rfl | rfl | rfl
      · exact ⟨.size, _, rfl, s210 _ _ (sm2 _ _ up1)⟩
      · exact ⟨.cell, _, rfl, s210 _ _ up2⟩
      · exact ⟨.colour, _, rfl, s510 _ _ (sm5 _ _ up4)⟩
      · exact ⟨.bricks, _, rfl, s510 _ _ up5⟩
      · exact ⟨.great, _, rfl, s810 _ _ up8⟩
    walk_at "rd"
    refine ⟨⟨_, sqL up10⟩, for_list (K := K) (a := l10) (xs := [V.ref t1, V.ref t2, V.ref t4, V.ref t5, V.ref t8]) (fun j σ H' => L7A a H10 σ H') (.mk (Same.refl _)) ?_ ?_ ?_⟩
    · rintro _ _ _ _ ⟨sm⟩
      exact sqL (sm _ _ up10)
    · rintro j v _ H11 hj @⟨_, y1, y2, y3, y4, y5, y6, y7, y8, sm11⟩
      obtain ⟨k, t, rfl, ht⟩ := (rows v (List.mem_of_getElem? hj)).mono sm11
      obtain ⟨d0, d1⟩ := doors_pos k
      refine ⟨t, _, rfl, sqT ht, rfl, ?_⟩
      walk_at "rd"
      have s011 := s010.trans sm11
      refine for_range (lo := 0) (n := k.doors.toNat) (fun i σ H' => L7B K k a H11 σ H') (.mk (Same.refl _)) ?_ ?_
      · rintro i _ H12 hi @⟨_, y1, y6, y7, y8, sm12⟩
        refine gN2 (σ' := [some (.ref a), y1, some (.ref (He.ga K k.ask)), some (.int k.doors), some (.ref (He.ga K k.thg)), some (.int k.due), some (.int (0 + (i : Int))), y7, y8, none]) rfl ?_
        refine ⟨_, _, rfl, ⟨k, rfl, rfl⟩, ?_⟩
        walk_at "rd"
        refine ⟨a, _, rfl, .inl ((s011.trans sm12).seq hS), ?_⟩
        rw [List.length_map]
        walk_at "rd"
        have p60 : (10 : Int) ^ 60 = 1000000000000000000000000000000000000000000000000000000000000 := by decide
        refine .mk (by omega) (by rw [p60]; omega) fun pl vs H13 sm13 epl v0 v50 hbad => ?_
        walk_at "rd"
        refine ⟨⟨_, sqL epl⟩, fun D hD => ?_⟩
        refine lc_list (K := K) (a := pl) (xs := vs) (fun j H' => Same H13 H' ∧ H' D = some (.lst ((List.replicate j true).map V.bl))) ⟨same_upd hD, upd_same⟩ (fun j H' _ ⟨sm, _⟩ => sqL (sm _ _ epl)) ?_ ?_
        · rintro j x H14 hj ⟨sm14, eD⟩
          have hlt := (List.getElem?_eq_some_iff.mp hj).1
          refine ⟨rfl, lc_yes ?_⟩
          walk_at "rd"
          refine .mk (k := k) (by omega) (by omega) ((hbad x (List.mem_of_getElem? hj)).mono sm14) fun H15 sm15 => ⟨_, sm15 _ _ eD, ?_, same_mut2 (sm14.trans sm15) hD, ?_⟩
          · rw [List.length_map, List.length_replicate]
            exact Nat.lt_of_lt_of_le hlt (Nat.le_trans v50 (by decide))
          · rw [upd_same, List.replicate_succ', List.map_append]
            rfl
        rintro H14 ⟨sm14, eD⟩
        refine ⟨D, _, rfl, sqL eD, ?_⟩
        have al : (List.replicate vs.length true).all id = true := by
          rw [List.all_eq_true]
          intro x hx
          exact (List.mem_replicate.mp hx).2
        rw [al]
        exact ⟨_, rfl, iteF (.mk (sm12.trans (sm13.trans sm14)))⟩
      rintro _ H12 @⟨_, y1, y6, y7, y8, sm12⟩
      dsimp only
      have s012 := s011.trans sm12
      refine ⟨_, rfl, a, rfl, ⟨_, s012.seq hS⟩, for_list (K := K) (a := a) (xs := ns.map V.int) (fun i σ H' => L7B K k a H11 σ H') (.mk sm12) ?_ ?_ ?_⟩
      · rintro _ _ _ _ ⟨sm⟩
        exact (s011.trans sm).seq hS
      · rintro i v _ H13 hi @⟨_, y1, y6, y7, y8, sm13⟩
        obtain ⟨n, hn, rfl⟩ := ints_at hi
        refine gN2 (σ' := [some (.ref a), y1, some (.ref (He.ga K k.ask)), some (.int k.doors), some (.ref (He.ga K k.thg)), some (.int k.due), y6, some (.int n), y8, none]) rfl ?_
        refine ⟨_, _, rfl, ⟨k, rfl, rfl⟩, ?_⟩
        walk_at "rd"
        have p60 : (10 : Int) ^ 60 = 1000000000000000000000000000000000000000000000000000000000000 := by decide
        have e60 : (10 : Int) ^ Int.toNat 60 = 10 ^ 60 := rfl
        refine .mk (Int.emod_nonneg _ (by decide)) (Int.emod_lt_of_pos _ (by decide)) fun pl vs H14 sm14 epl v0 v50 hbad => ?_
        walk_at "rd"
        refine ⟨pl, _, rfl, .inl (sqL epl), ?_⟩
        have vp : 0 < (vs.length : Int) := by omega
        obtain ⟨m, hm⟩ := Int.eq_ofNat_of_zero_le (Int.emod_nonneg (n / 7) (Int.ne_of_gt vp))
        have hm2 := Int.emod_lt_of_pos (n / 7) vp
        have hmv : m < vs.length := by omega
        walk_at "rd"
        refine ⟨pl, _, _, vs[m], rfl, rfl, sqL epl, (by
          show atI vs (n / 7 % (vs.length : Int)) = _
          rw [hm]
          exact atI_nat (List.getElem?_eq_getElem hmv)), ?_⟩
        walk_at "rd"
        refine .mk (k := k) (Int.emod_nonneg _ (Int.ne_of_gt d0)) (Int.emod_lt_of_pos _ d0) (hbad _ (List.getElem_mem hmv)) fun H15 sm15 => ?_
        exact ⟨_, rfl, iteF (.mk (sm13.trans (sm14.trans sm15)))⟩
      · rintro _ H13 @⟨_, y1, y6, y7, y8, sm13⟩
        exact .mk (sm11.trans sm13)
    · rintro _ H11 @⟨_, y1, y2, y3, y4, y5, y6, y7, y8, sm11⟩
      have z1 : Sz 1 := sz_of_lt (by decide) (by decide)
      dsimp only
      walk_at "rd"
      refine .mk z1 z1 z1 (by decide) (by decide) fun H12 sm12 => ?_
      walk_at "rd"
      refine iteP (show V.int (alikeI 1 1 1 0) = V.int 1 by decide) ?_
      walk_at "rd"
      refine .mk z1 z1 z1 z1 free_1 fun H13 sm13 => ?_
      have l1 : lieP 1 1 1 1 = 1 := by
        unfold lieP
        rw [if_pos rfl]
        rfl
      rw [l1]
      walk_at "rd"
      intro u1 hu1
      generalize hH14 : upd H13 u1 _ = H14
      obtain ⟨sm14, up14⟩ : Same H13 H14 ∧ H14 u1 = some (.tup (cellV (0, 0))) := newH hH14 hu1
      clear hH14
      refine .mk z1 z1 z1 z1 free_1 up14 (by decide) fun p1 p2 H15 sm15 e1 e2 => ?_
      rw [brick_1] at e1 e2
      walk_at "rd"
      intro u2 hu2
      generalize hH16 : upd H15 u2 _ = H16
      obtain ⟨sm16, up16⟩ : Same H15 H16 ∧ H16 u2 = some (.tup [.int 0, .int 0]) := newH hH16 hu2
      clear hH16
      walk_at "rd"
      intro u3 hu3
      generalize hH17 : upd H16 u3 _ = H17
      obtain ⟨sm17, up17⟩ : Same H16 H17 ∧ H17 u3 = some (.tup [.ref u2, .bl true]) := newH hH17 hu3
      clear hH17
      have s1517 := sm16.trans sm17
      refine ⟨.tuple [.tuple [.int 0, .int 0], .bool true], .tuple [.tuple [.int 0, .int 0], .bool true], .tup (sqT (s1517 _ _ e1)) (.cons (.tup (sqT (s1517 _ _ e2)) (.cons (.int _) (.cons (.int _) .nil))) (.cons (.bl _) .nil)), .tup (sqT up17) (.cons (.tup (sqT (sm17 _ _ up16)) (.cons (.int _) (.cons (.int _) .nil))) (.cons (.bl _) .nil)), rfl, rfl, ?_⟩
      rw [SeqAt.eqv_refl _ rfl]
      exact q _
end
end BF

/-! ### what the top leaves of the error classes -/
namespace BF
def exB (K : PySem.W.Frag) : Bool := ersB K
end BF

namespace BF
open PySem PySem.Spec PyProof.Rows L2
/-! ### what the top leaves: each def by name -/
def d__wall : He.DefD := ⟨("_wall", none), "_wall", "_wall", defArgs s__wall, defBody s__wall, defScope s__wall, [], []⟩
def d_is_number : He.DefD := ⟨("is_number", none), "is_number", "is_number", defArgs s_is_number, defBody s_is_number, defScope s_is_number, [], []⟩
def d_check_sizes : He.DefD := ⟨("check_sizes", none), "check_sizes", "check_sizes", defArgs s_check_sizes, defBody s_check_sizes, defScope s_check_sizes, [], []⟩
def d_shared : He.DefD := ⟨("shared", none), "shared", "shared", defArgs s_shared, defBody s_shared, defScope s_shared, [], []⟩
def d_parts_of : He.DefD := ⟨("parts_of", none), "parts_of", "parts_of", defArgs s_parts_of, defBody s_parts_of, defScope s_parts_of, [], []⟩
def d_sum_of : He.DefD := ⟨("sum_of", none), "sum_of", "sum_of", defArgs s_sum_of, defBody s_sum_of, defScope s_sum_of, [], []⟩
def d_is_striped : He.DefD := ⟨("is_striped", none), "is_striped", "is_striped", defArgs s_is_striped, defBody s_is_striped, defScope s_is_striped, [], []⟩
def d_what_bars : He.DefD := ⟨("what_bars", none), "what_bars", "what_bars", defArgs s_what_bars, defBody s_what_bars, defScope s_what_bars, [], []⟩
def d_Laid_shows : He.DefD := ⟨("Laid", some "shows"), "shows", "Laid.shows", defArgs s_Laid_shows, defBody s_Laid_shows, defScope s_Laid_shows, [], []⟩
def d_Striped___init__ : He.DefD := ⟨("Striped", some "__init__"), "__init__", "Striped.__init__", defArgs s_Striped___init__, defBody s_Striped___init__, defScope s_Striped___init__, [], []⟩
def d_Striped_shows : He.DefD := ⟨("Striped", some "shows"), "shows", "Striped.shows", defArgs s_Striped_shows, defBody s_Striped_shows, defScope s_Striped_shows, [], []⟩
def d_Short___init__ : He.DefD := ⟨("Short", some "__init__"), "__init__", "Short.__init__", defArgs s_Short___init__, defBody s_Short___init__, defScope s_Short___init__, [], []⟩
def d_Short_shows : He.DefD := ⟨("Short", some "shows"), "shows", "Short.shows", defArgs s_Short_shows, defBody s_Short_shows, defScope s_Short_shows, [], []⟩
def d_is_beyond : He.DefD := ⟨("is_beyond", none), "is_beyond", "is_beyond", defArgs s_is_beyond, defBody s_is_beyond, defScope s_is_beyond, [], []⟩
def d_covers : He.DefD := ⟨("covers", none), "covers", "covers", defArgs s_covers, defBody s_covers, defScope s_covers, [], []⟩
def d_is_cell : He.DefD := ⟨("is_cell", none), "is_cell", "is_cell", defArgs s_is_cell, defBody s_is_cell, defScope s_is_cell, [], []⟩
def d_often : He.DefD := ⟨("often", none), "often", "often", defArgs s_often, defBody s_often, defScope s_often, [], []⟩
def d_Full_shows : He.DefD := ⟨("Full", some "shows"), "shows", "Full.shows", defArgs s_Full_shows, defBody s_Full_shows, defScope s_Full_shows, [], []⟩
def d_Beyond___init__ : He.DefD := ⟨("Beyond", some "__init__"), "__init__", "Beyond.__init__", defArgs s_Beyond___init__, defBody s_Beyond___init__, defScope s_Beyond___init__, [], []⟩
def d_Beyond_shows : He.DefD := ⟨("Beyond", some "shows"), "shows", "Beyond.shows", defArgs s_Beyond_shows, defBody s_Beyond_shows, defScope s_Beyond_shows, [], []⟩
def d_Twice___init__ : He.DefD := ⟨("Twice", some "__init__"), "__init__", "Twice.__init__", defArgs s_Twice___init__, defBody s_Twice___init__, defScope s_Twice___init__, [], []⟩
def d_Twice_shows : He.DefD := ⟨("Twice", some "shows"), "shows", "Twice.shows", defArgs s_Twice_shows, defBody s_Twice_shows, defScope s_Twice_shows, [], []⟩
def d_Bare___init__ : He.DefD := ⟨("Bare", some "__init__"), "__init__", "Bare.__init__", defArgs s_Bare___init__, defBody s_Bare___init__, defScope s_Bare___init__, [], []⟩
def d_Bare_shows : He.DefD := ⟨("Bare", some "shows"), "shows", "Bare.shows", defArgs s_Bare_shows, defBody s_Bare_shows, defScope s_Bare_shows, [], []⟩
def d_told : He.DefD := ⟨("told", none), "told", "told", defArgs s_told, defBody s_told, defScope s_told, [], []⟩
def d_check_laid : He.DefD := ⟨("check_laid", none), "check_laid", "check_laid", defArgs s_check_laid, defBody s_check_laid, defScope s_check_laid, [], []⟩
def d_plan : He.DefD := ⟨("plan", none), "plan", "plan", defArgs s_plan, defBody s_plan, defScope s_plan, [], []⟩
def d_brick_on : He.DefD := ⟨("brick_on", none), "brick_on", "brick_on", defArgs s_brick_on, defBody s_brick_on, defScope s_brick_on, [], []⟩
def d_lying : He.DefD := ⟨("lying", none), "lying", "lying", defArgs s_lying, defBody s_lying, defScope s_lying, [], []⟩
def d_standing : He.DefD := ⟨("standing", none), "standing", "standing", defArgs s_standing, defBody s_standing, defScope s_standing, [], []⟩
def d_is_brick : He.DefD := ⟨("is_brick", none), "is_brick", "is_brick", defArgs s_is_brick, defBody s_is_brick, defScope s_is_brick, [], []⟩
def d_judged : He.DefD := ⟨("judged", none), "judged", "judged", defArgs s_judged, defBody s_judged, defScope s_judged, [], []⟩
def d_pairs_to : He.DefD := ⟨("pairs_to", none), "pairs_to", "pairs_to", defArgs s_pairs_to, defBody s_pairs_to, defScope s_pairs_to, [], []⟩
def d_alike : He.DefD := ⟨("alike", none), "alike", "alike", defArgs s_alike, defBody s_alike, defScope s_alike, [], []⟩
def d__law_with_size : He.DefD := ⟨("_law_with_size", none), "_law_with_size", "_law_with_size", defArgs s__law_with_size, defBody s__law_with_size, defScope s__law_with_size, [], []⟩
def d__law_with_cell : He.DefD := ⟨("_law_with_cell", none), "_law_with_cell", "_law_with_cell", defArgs s__law_with_cell, defBody s__law_with_cell, defScope s__law_with_cell, [], []⟩
def d__law_with_colour : He.DefD := ⟨("_law_with_colour", none), "_law_with_colour", "_law_with_colour", defArgs s__law_with_colour, defBody s__law_with_colour, defScope s__law_with_colour, [], []⟩
def d__law_with_bricks : He.DefD := ⟨("_law_with_bricks", none), "_law_with_bricks", "_law_with_bricks", defArgs s__law_with_bricks, defBody s__law_with_bricks, defScope s__law_with_bricks, [], []⟩
def d__law_with_great : He.DefD := ⟨("_law_with_great", none), "_law_with_great", "_law_with_great", defArgs s__law_with_great, defBody s__law_with_great, defScope s__law_with_great, [], []⟩
def d__law_due : He.DefD := ⟨("_law_due", none), "_law_due", "_law_due", defArgs s__law_due, defBody s__law_due, defScope s__law_due, [], []⟩
def d__law_bad_sizes : He.DefD := ⟨("_law_bad_sizes", none), "_law_bad_sizes", "_law_bad_sizes", defArgs s__law_bad_sizes, defBody s__law_bad_sizes, defScope s__law_bad_sizes, [], []⟩
def d__law_bad_cells : He.DefD := ⟨("_law_bad_cells", none), "_law_bad_cells", "_law_bad_cells", defArgs s__law_bad_cells, defBody s__law_bad_cells, defScope s__law_bad_cells, [], []⟩
def d__law_bad_colours : He.DefD := ⟨("_law_bad_colours", none), "_law_bad_colours", "_law_bad_colours", defArgs s__law_bad_colours, defBody s__law_bad_colours, defScope s__law_bad_colours, [], []⟩
def d__law_bad_bricks : He.DefD := ⟨("_law_bad_bricks", none), "_law_bad_bricks", "_law_bad_bricks", defArgs s__law_bad_bricks, defBody s__law_bad_bricks, defScope s__law_bad_bricks, [], []⟩
def d__law_great : He.DefD := ⟨("_law_great", none), "_law_great", "_law_great", defArgs s__law_great, defBody s__law_great, defScope s__law_great, [], []⟩
def d_law : He.DefD := ⟨("law", none), "law", "law", defArgs s_law, defBody s_law, defScope s_law, [], []⟩
def fns : List He.DefD := [d__wall, d_is_number, d_check_sizes, d_shared, d_parts_of, d_sum_of, d_is_striped, d_what_bars, d_Laid_shows, d_Striped___init__, d_Striped_shows, d_Short___init__, d_Short_shows, d_is_beyond, d_covers, d_is_cell, d_often, d_Full_shows, d_Beyond___init__, d_Beyond_shows, d_Twice___init__, d_Twice_shows, d_Bare___init__, d_Bare_shows, d_told, d_check_laid, d_plan, d_brick_on, d_lying, d_standing, d_is_brick, d_judged, d_pairs_to, d_alike, d__law_with_size, d__law_with_cell, d__law_with_colour, d__law_with_bricks, d__law_with_great, d__law_due, d__law_bad_sizes, d__law_bad_cells, d__law_bad_colours, d__law_bad_bricks, d__law_great, d_law]
def fas : List He.Fa := [.glo "_wall", .glo "is_number", .glo "check_sizes", .glo "shared", .glo "parts_of", .glo "sum_of", .glo "is_striped", .glo "what_bars", .glo "is_beyond", .glo "covers", .glo "is_cell", .glo "often", .glo "told", .glo "check_laid", .glo "plan", .glo "brick_on", .glo "lying", .glo "standing", .glo "is_brick", .glo "judged", .glo "pairs_to", .glo "alike", .glo "_law_with_size", .glo "_law_with_cell", .glo "_law_with_colour", .glo "_law_with_bricks", .glo "_law_with_great", .glo "_law_due", .glo "_law_bad_sizes", .glo "_law_bad_cells", .glo "_law_bad_colours", .glo "_law_bad_bricks", .glo "_law_great", .glo "law", .free "ValueError", .free "all", .free "bool", .free "enumerate", .free "int", .free "isinstance", .free "len", .free "list", .free "max", .free "min", .free "range", .free "tuple", .int "MOST" 400]
def loose0 : List PySem.Str := ["_wall", "FloorError", "BadSize", "BadCell", "BadColour", "BadBricks", "Barred", "TooGreat", "is_number", "check_sizes", "shared", "parts_of", "sum_of", "Answer", "is_striped", "what_bars", "Laid", "Striped", "Short", "is_beyond", "covers", "is_cell", "often", "Full", "Beyond", "Twice", "Bare", "told", "check_laid", "plan"]
def loose1 : List PySem.Str := ["brick_on", "lying", "standing", "is_brick", "judged", "pairs_to", "alike", "_law_with_size", "_law_with_cell", "_law_with_colour", "_law_with_bricks", "_law_with_great", "_law_due", "_law_bad_sizes", "_law_bad_cells", "_law_bad_colours", "_law_bad_bricks", "_law_great", "MOST"]
def looseN : List PySem.Str := loose0 ++ loose1
def tfs : List He.Defn := []
abbrev R : PySem.W.OpenRow := PySem.W.OpenLaw.row PySem.Challenge.rw_brickfloor_k07_refused
abbrev hk : PySem.W.Hook := He.hookX 7 fas fns [] tfs exB
def ob (s : PySem.W.SharedT) : He.AlX := He.obsX 7 fas fns [] tfs exB (HandSHeadRun.getT s)
theorem ob_eq (s : PySem.W.SharedT) : ob s = hk.obs s.abs := He.obsX_eq (HandSHeadRun.getT_eq s)
theorem run (w : World) : HandSHeadRun.RunEq R (PySem.W.view R.prog [56]) hk ob 8000 looseN w := by
  intro os
  kernel_rfl
abbrev Says (w : World) (h : Heap) (K : PySem.W.Frag) : Prop := He.SaysX fas fns [] tfs exB w h K
section
variable {w : World} {K : PySem.W.Frag} {h : Heap} {mg : Str → Option Value}
theorem pl__wall (X : K.In h) (G : h.Ns mainGlobals mg) (c : Says w h K) : Pl K mg "_wall" s__wall := by
  obtain ⟨fd, F⟩ := c.t.d.def_ 0 (d := d__wall) rfl
  exact ⟨_, fd, F, He.glo_ok X G (c.t.d.fact 0 (f := .glo "_wall") rfl)⟩
theorem pl_is_number (X : K.In h) (G : h.Ns mainGlobals mg) (c : Says w h K) : Pl K mg "is_number" s_is_number := by
  obtain ⟨fd, F⟩ := c.t.d.def_ 1 (d := d_is_number) rfl
  exact ⟨_, fd, F, He.glo_ok X G (c.t.d.fact 1 (f := .glo "is_number") rfl)⟩
theorem pl_check_sizes (X : K.In h) (G : h.Ns mainGlobals mg) (c : Says w h K) : Pl K mg "check_sizes" s_check_sizes := by
  obtain ⟨fd, F⟩ := c.t.d.def_ 2 (d := d_check_sizes) rfl
  exact ⟨_, fd, F, He.glo_ok X G (c.t.d.fact 2 (f := .glo "check_sizes") rfl)⟩
theorem pl_shared (X : K.In h) (G : h.Ns mainGlobals mg) (c : Says w h K) : Pl K mg "shared" s_shared := by
  obtain ⟨fd, F⟩ := c.t.d.def_ 3 (d := d_shared) rfl
  exact ⟨_, fd, F, He.glo_ok X G (c.t.d.fact 3 (f := .glo "shared") rfl)⟩
theorem pl_parts_of (X : K.In h) (G : h.Ns mainGlobals mg) (c : Says w h K) : Pl K mg "parts_of" s_parts_of := by
  obtain ⟨fd, F⟩ := c.t.d.def_ 4 (d := d_parts_of) rfl
  exact ⟨_, fd, F, He.glo_ok X G (c.t.d.fact 4 (f := .glo "parts_of") rfl)⟩
theorem pl_sum_of (X : K.In h) (G : h.Ns mainGlobals mg) (c : Says w h K) : Pl K mg "sum_of" s_sum_of := by
  obtain ⟨fd, F⟩ := c.t.d.def_ 5 (d := d_sum_of) rfl
  exact ⟨_, fd, F, He.glo_ok X G (c.t.d.fact 5 (f := .glo "sum_of") rfl)⟩
theorem pl_is_striped (X : K.In h) (G : h.Ns mainGlobals mg) (c : Says w h K) : Pl K mg "is_striped" s_is_striped := by
  obtain ⟨fd, F⟩ := c.t.d.def_ 6 (d := d_is_striped) rfl
  exact ⟨_, fd, F, He.glo_ok X G (c.t.d.fact 6 (f := .glo "is_striped") rfl)⟩
theorem pl_what_bars (X : K.In h) (G : h.Ns mainGlobals mg) (c : Says w h K) : Pl K mg "what_bars" s_what_bars := by
  obtain ⟨fd, F⟩ := c.t.d.def_ 7 (d := d_what_bars) rfl
  exact ⟨_, fd, F, He.glo_ok X G (c.t.d.fact 7 (f := .glo "what_bars") rfl)⟩
theorem pl_is_beyond (X : K.In h) (G : h.Ns mainGlobals mg) (c : Says w h K) : Pl K mg "is_beyond" s_is_beyond := by
  obtain ⟨fd, F⟩ := c.t.d.def_ 13 (d := d_is_beyond) rfl
  exact ⟨_, fd, F, He.glo_ok X G (c.t.d.fact 8 (f := .glo "is_beyond") rfl)⟩
theorem pl_covers (X : K.In h) (G : h.Ns mainGlobals mg) (c : Says w h K) : Pl K mg "covers" s_covers := by
  obtain ⟨fd, F⟩ := c.t.d.def_ 14 (d := d_covers) rfl
  exact ⟨_, fd, F, He.glo_ok X G (c.t.d.fact 9 (f := .glo "covers") rfl)⟩
theorem pl_is_cell (X : K.In h) (G : h.Ns mainGlobals mg) (c : Says w h K) : Pl K mg "is_cell" s_is_cell := by
  obtain ⟨fd, F⟩ := c.t.d.def_ 15 (d := d_is_cell) rfl
  exact ⟨_, fd, F, He.glo_ok X G (c.t.d.fact 10 (f := .glo "is_cell") rfl)⟩
theorem pl_often (X : K.In h) (G : h.Ns mainGlobals mg) (c : Says w h K) : Pl K mg "often" s_often := by
  obtain ⟨fd, F⟩ := c.t.d.def_ 16 (d := d_often) rfl
  exact ⟨_, fd, F, He.glo_ok X G (c.t.d.fact 11 (f := .glo "often") rfl)⟩
theorem pl_told (X : K.In h) (G : h.Ns mainGlobals mg) (c : Says w h K) : Pl K mg "told" s_told := by
  obtain ⟨fd, F⟩ := c.t.d.def_ 24 (d := d_told) rfl
  exact ⟨_, fd, F, He.glo_ok X G (c.t.d.fact 12 (f := .glo "told") rfl)⟩
theorem pl_check_laid (X : K.In h) (G : h.Ns mainGlobals mg) (c : Says w h K) : Pl K mg "check_laid" s_check_laid := by
  obtain ⟨fd, F⟩ := c.t.d.def_ 25 (d := d_check_laid) rfl
  exact ⟨_, fd, F, He.glo_ok X G (c.t.d.fact 13 (f := .glo "check_laid") rfl)⟩
theorem pl_plan (X : K.In h) (G : h.Ns mainGlobals mg) (c : Says w h K) : Pl K mg "plan" s_plan := by
  obtain ⟨fd, F⟩ := c.t.d.def_ 26 (d := d_plan) rfl
  exact ⟨_, fd, F, He.glo_ok X G (c.t.d.fact 14 (f := .glo "plan") rfl)⟩
theorem pl_brick_on (X : K.In h) (G : h.Ns mainGlobals mg) (c : Says w h K) : Pl K mg "brick_on" s_brick_on := by
  obtain ⟨fd, F⟩ := c.t.d.def_ 27 (d := d_brick_on) rfl
  exact ⟨_, fd, F, He.glo_ok X G (c.t.d.fact 15 (f := .glo "brick_on") rfl)⟩
theorem pl_lying (X : K.In h) (G : h.Ns mainGlobals mg) (c : Says w h K) : Pl K mg "lying" s_lying := by
  obtain ⟨fd, F⟩ := c.t.d.def_ 28 (d := d_lying) rfl
  exact ⟨_, fd, F, He.glo_ok X G (c.t.d.fact 16 (f := .glo "lying") rfl)⟩
theorem pl_standing (X : K.In h) (G : h.Ns mainGlobals mg) (c : Says w h K) : Pl K mg "standing" s_standing := by
  obtain ⟨fd, F⟩ := c.t.d.def_ 29 (d := d_standing) rfl
  exact ⟨_, fd, F, He.glo_ok X G (c.t.d.fact 17 (f := .glo "standing") rfl)⟩
theorem pl_is_brick (X : K.In h) (G : h.Ns mainGlobals mg) (c : Says w h K) : Pl K mg "is_brick" s_is_brick := by
  obtain ⟨fd, F⟩ := c.t.d.def_ 30 (d := d_is_brick) rfl
  exact ⟨_, fd, F, He.glo_ok X G (c.t.d.fact 18 (f := .glo "is_brick") rfl)⟩
theorem pl_judged (X : K.In h) (G : h.Ns mainGlobals mg) (c : Says w h K) : Pl K mg "judged" s_judged := by
  obtain ⟨fd, F⟩ := c.t.d.def_ 31 (d := d_judged) rfl
  exact ⟨_, fd, F, He.glo_ok X G (c.t.d.fact 19 (f := .glo "judged") rfl)⟩
theorem pl_pairs_to (X : K.In h) (G : h.Ns mainGlobals mg) (c : Says w h K) : Pl K mg "pairs_to" s_pairs_to := by
  obtain ⟨fd, F⟩ := c.t.d.def_ 32 (d := d_pairs_to) rfl
  exact ⟨_, fd, F, He.glo_ok X G (c.t.d.fact 20 (f := .glo "pairs_to") rfl)⟩
theorem pl_alike (X : K.In h) (G : h.Ns mainGlobals mg) (c : Says w h K) : Pl K mg "alike" s_alike := by
  obtain ⟨fd, F⟩ := c.t.d.def_ 33 (d := d_alike) rfl
  exact ⟨_, fd, F, He.glo_ok X G (c.t.d.fact 21 (f := .glo "alike") rfl)⟩
theorem pl__law_with_size (X : K.In h) (G : h.Ns mainGlobals mg) (c : Says w h K) : Pl K mg "_law_with_size" s__law_with_size := by
  obtain ⟨fd, F⟩ := c.t.d.def_ 34 (d := d__law_with_size) rfl
  exact ⟨_, fd, F, He.glo_ok X G (c.t.d.fact 22 (f := .glo "_law_with_size") rfl)⟩
theorem pl__law_with_cell (X : K.In h) (G : h.Ns mainGlobals mg) (c : Says w h K) : Pl K mg "_law_with_cell" s__law_with_cell := by
  obtain ⟨fd, F⟩ := c.t.d.def_ 35 (d := d__law_with_cell) rfl
  exact ⟨_, fd, F, He.glo_ok X G (c.t.d.fact 23 (f := .glo "_law_with_cell") rfl)⟩
theorem pl__law_with_colour (X : K.In h) (G : h.Ns mainGlobals mg) (c : Says w h K) : Pl K mg "_law_with_colour" s__law_with_colour := by
  obtain ⟨fd, F⟩ := c.t.d.def_ 36 (d := d__law_with_colour) rfl
  exact ⟨_, fd, F, He.glo_ok X G (c.t.d.fact 24 (f := .glo "_law_with_colour") rfl)⟩
theorem pl__law_with_bricks (X : K.In h) (G : h.Ns mainGlobals mg) (c : Says w h K) : Pl K mg "_law_with_bricks" s__law_with_bricks := by
  obtain ⟨fd, F⟩ := c.t.d.def_ 37 (d := d__law_with_bricks) rfl
  exact ⟨_, fd, F, He.glo_ok X G (c.t.d.fact 25 (f := .glo "_law_with_bricks") rfl)⟩
theorem pl__law_with_great (X : K.In h) (G : h.Ns mainGlobals mg) (c : Says w h K) : Pl K mg "_law_with_great" s__law_with_great := by
  obtain ⟨fd, F⟩ := c.t.d.def_ 38 (d := d__law_with_great) rfl
  exact ⟨_, fd, F, He.glo_ok X G (c.t.d.fact 26 (f := .glo "_law_with_great") rfl)⟩
theorem pl__law_due (X : K.In h) (G : h.Ns mainGlobals mg) (c : Says w h K) : Pl K mg "_law_due" s__law_due := by
  obtain ⟨fd, F⟩ := c.t.d.def_ 39 (d := d__law_due) rfl
  exact ⟨_, fd, F, He.glo_ok X G (c.t.d.fact 27 (f := .glo "_law_due") rfl)⟩
theorem pl__law_bad_sizes (X : K.In h) (G : h.Ns mainGlobals mg) (c : Says w h K) : Pl K mg "_law_bad_sizes" s__law_bad_sizes := by
  obtain ⟨fd, F⟩ := c.t.d.def_ 40 (d := d__law_bad_sizes) rfl
  exact ⟨_, fd, F, He.glo_ok X G (c.t.d.fact 28 (f := .glo "_law_bad_sizes") rfl)⟩
theorem pl__law_bad_cells (X : K.In h) (G : h.Ns mainGlobals mg) (c : Says w h K) : Pl K mg "_law_bad_cells" s__law_bad_cells := by
  obtain ⟨fd, F⟩ := c.t.d.def_ 41 (d := d__law_bad_cells) rfl
  exact ⟨_, fd, F, He.glo_ok X G (c.t.d.fact 29 (f := .glo "_law_bad_cells") rfl)⟩
theorem pl__law_bad_colours (X : K.In h) (G : h.Ns mainGlobals mg) (c : Says w h K) : Pl K mg "_law_bad_colours" s__law_bad_colours := by
  obtain ⟨fd, F⟩ := c.t.d.def_ 42 (d := d__law_bad_colours) rfl
  exact ⟨_, fd, F, He.glo_ok X G (c.t.d.fact 30 (f := .glo "_law_bad_colours") rfl)⟩
theorem pl__law_bad_bricks (X : K.In h) (G : h.Ns mainGlobals mg) (c : Says w h K) : Pl K mg "_law_bad_bricks" s__law_bad_bricks := by
  obtain ⟨fd, F⟩ := c.t.d.def_ 43 (d := d__law_bad_bricks) rfl
  exact ⟨_, fd, F, He.glo_ok X G (c.t.d.fact 31 (f := .glo "_law_bad_bricks") rfl)⟩
theorem pl__law_great (X : K.In h) (G : h.Ns mainGlobals mg) (c : Says w h K) : Pl K mg "_law_great" s__law_great := by
  obtain ⟨fd, F⟩ := c.t.d.def_ 44 (d := d__law_great) rfl
  exact ⟨_, fd, F, He.glo_ok X G (c.t.d.fact 32 (f := .glo "_law_great") rfl)⟩
theorem pl_law (X : K.In h) (G : h.Ns mainGlobals mg) (c : Says w h K) : Pl K mg "law" s_law := by
  obtain ⟨fd, F⟩ := c.t.d.def_ 45 (d := d_law) rfl
  exact ⟨_, fd, F, He.glo_ok X G (c.t.d.fact 33 (f := .glo "law") rfl)⟩
theorem const_MOST (X : K.In h) (G : h.Ns mainGlobals mg) (c : Says w h K) : ∃ t, mg "MOST" = some (.int 400 t) := He.int_ok X G (c.t.d.fact 46 (f := .int "MOST" 400) rfl)
theorem bi_ok (X : K.In h) (G : h.Ns mainGlobals mg) (c : Says w h K) : Bi mg := ⟨He.free_ok X G (c.t.d.fact 34 (f := .free "ValueError") rfl), He.free_ok X G (c.t.d.fact 35 (f := .free "all") rfl), He.free_ok X G (c.t.d.fact 36 (f := .free "bool") rfl), He.free_ok X G (c.t.d.fact 37 (f := .free "enumerate") rfl), He.free_ok X G (c.t.d.fact 38 (f := .free "int") rfl), He.free_ok X G (c.t.d.fact 39 (f := .free "isinstance") rfl), He.free_ok X G (c.t.d.fact 40 (f := .free "len") rfl), He.free_ok X G (c.t.d.fact 41 (f := .free "list") rfl), He.free_ok X G (c.t.d.fact 42 (f := .free "max") rfl), He.free_ok X G (c.t.d.fact 43 (f := .free "min") rfl), He.free_ok X G (c.t.d.fact 44 (f := .free "range") rfl), He.free_ok X G (c.t.d.fact 45 (f := .free "tuple") rfl)⟩
end
end BF

namespace BF
open PySem PySem.Spec PyProof.Rows L2
def lawLevel : Nat := 8
section
variable {w : World} {K : PySem.W.Frag} {h : Heap} {mg : Str → Option Value} {P : Program} {base : Heap}
theorem has_law (X : K.In h) (G : h.Ns mainGlobals mg) (c : Says w h K) : Has P w K mg base CX0 8 "law" ["_law_script"] (SpLaw K) := by
  have B := bi_ok X G c
  have GE := ersB_ok X G c.more
  have M := const_MOST X G c
  have h1 := H_is_number (P := P) (w := w) (base := base) (pl_is_number X G c) B
  have h2 := H_check_sizes (pl_check_sizes X G c) h1
  have h3 := H_shared (P := P) (w := w) (base := base) (pl_shared X G c)
  have h4 := H_parts_of (pl_parts_of X G c) h3
  have h5 := H_is_striped (P := P) (w := w) (base := base) (pl_is_striped X G c)
  have h6 := H_what_bars (pl_what_bars X G c) B h5 h4
  have g4 := H_is_cell (pl_is_cell X G c) B h1
  have k1 := H_check_laid (pl_check_laid X G c) h2 h6
  have k2 := H_plan (pl_plan X G c) h4
  have k3 := H_brick_on (pl_brick_on X G c) k1 g4 k2
  have k4 := H_lying (pl_lying X G c) k1 k2
  have s1 := H_pairs_to (P := P) (w := w) (base := base) (pl_pairs_to X G c) B
  have s2 := H_alike (pl_alike X G c) h2 h1 s1
  have x1 := HX_check_sizes (pl_check_sizes X G c) GE h1
  have x2 := HX_told (pl_told X G c) x1
  have x3 := HXS_check_laid (pl_check_laid X G c) x1
  have x4 := HXS_judged (pl_judged X G c) x1
  have x5 := HXS_sum_of (pl_sum_of X G c) x1
  have x6 := HXS_alike (pl_alike X G c) x1
  have x7 := HXS_lying (pl_lying X G c) x3
  have x8 := HXS_standing (pl_standing X G c) x7
  have x9 := HXS_brick_on (pl_brick_on X G c) x3
  have y1 := HN_is_cell (pl_is_cell X G c) B h1
  have y2 := HC_brick_on (pl_brick_on X G c) GE k1 y1
  have y3 := HC_alike (pl_alike X G c) GE h2 h1
  have y4 := HG_is_brick (pl_is_brick X G c) B h1
  have y5 := HB_judged (pl_judged X G c) B GE M h2 y4
  have y6 := HG_judged (pl_judged X G c) GE M h2
  have a1 := HX__law_with_size (pl__law_with_size X G c) x2 x9 x7 x8 x4 x5 x6
  have a2 := HX__law_with_cell (pl__law_with_cell X G c) y2
  have a3 := HX__law_with_colour (pl__law_with_colour X G c) y3
  have a4 := HX__law_with_bricks (pl__law_with_bricks X G c) y5
  have a5 := HX__law_with_great (pl__law_with_great X G c) y6
  have t1 := H__law_bad_sizes (P := P) (w := w) (base := base) (pl__law_bad_sizes X G c)
  have t2 := H__law_bad_cells (P := P) (w := w) (base := base) (pl__law_bad_cells X G c)
  have t3 := H__law_bad_colours (P := P) (w := w) (base := base) (pl__law_bad_colours X G c)
  have t4 := H__law_bad_bricks (P := P) (w := w) (base := base) (pl__law_bad_bricks X G c) B
  have t5 := H__law_great (P := P) (w := w) (base := base) (pl__law_great X G c)
  have ga : ∀ k : Kn, mg k.ask = some (.ref (He.ga K k.ask)) := fun k => by
    cases k with
    | size => exact He.glo_ok X G (c.t.d.fact 22 (f := .glo "_law_with_size") rfl)
    | cell => exact He.glo_ok X G (c.t.d.fact 23 (f := .glo "_law_with_cell") rfl)
    | colour => exact He.glo_ok X G (c.t.d.fact 24 (f := .glo "_law_with_colour") rfl)
    | bricks => exact He.glo_ok X G (c.t.d.fact 25 (f := .glo "_law_with_bricks") rfl)
    | great => exact He.glo_ok X G (c.t.d.fact 26 (f := .glo "_law_with_great") rfl)
  have gt : ∀ k : Kn, mg k.thg = some (.ref (He.ga K k.thg)) := fun k => by
    cases k with
    | size => exact He.glo_ok X G (c.t.d.fact 28 (f := .glo "_law_bad_sizes") rfl)
    | cell => exact He.glo_ok X G (c.t.d.fact 29 (f := .glo "_law_bad_cells") rfl)
    | colour => exact He.glo_ok X G (c.t.d.fact 30 (f := .glo "_law_bad_colours") rfl)
    | bricks => exact He.glo_ok X G (c.t.d.fact 31 (f := .glo "_law_bad_bricks") rfl)
    | great => exact He.glo_ok X G (c.t.d.fact 32 (f := .glo "_law_great") rfl)
  have ha : ∀ k : Kn, Has P w K mg base (CXN P w) 6 k.ask ["_law_door", "_law_thing"] (SpAskX K k) := fun k => by
    cases k with
    | size => exact a1
    | cell => exact a2
    | colour => exact a3
    | bricks => exact a4
    | great => exact a5
  have ht : ∀ k : Kn, Has P w K mg base CX0 1 k.thg ["_law_cell"] (SpThings K k) := fun k => by
    cases k with
    | size => exact t1
    | cell => exact t2
    | colour => exact t3
    | bricks => exact t4
    | great => exact t5
  have l1 := H__law_due (pl__law_due X G c) B GE (ask_held ga ha)
  exact H_law (pl_law X G c) B ga gt (thg_held gt ht) l1 s2 k4 k3
theorem law_at {f : Addr} (X : K.In h) (G : h.Ns mainGlobals mg) (c : Says w h K) (g : mg ("law" : Str) = some (.ref f)) : LamX.LawAtS PySem.Challenge.rw_brickfloor_k07_refused w K CX0 lawLevel 63 "_law_script" mg f h := by
  obtain ⟨f', fd, F, g'⟩ := pl_law X G c
  have e := g.symm.trans g'
  cases e
  refine ⟨fd, [], SpLaw K, (fun _ z => nomatch z), (fun _ z => nomatch z), (fun _ z => nomatch z), fun s u => FunD.bindsA (ps := ["_law_script"]) F (fun _ _ _ _ _ _ us hl => match us, hl with | [_], _ => rfl) s [u] rfl, fun H a ns hl hb _ hS => .mk hl hb hS fun _ => rfl, fun base hK hG _ => (has_law X G c).at F g'⟩
end
end BF

open PySem PySem.W PySem.Calls PyProof.Rows
set_option maxRecDepth 100000 in
set_option maxHeartbeats 8000000 in
theorem PySem.Challenge.cw_brickfloor_k07_refused_holds : PySem.Challenge.rw_brickfloor_k07_refused.Holds := by
  w_on; o_law
  refine HandSHeadRun.head_any (r := OpenLaw.row PySem.Challenge.rw_brickfloor_k07_refused) (q := view (OpenLaw.row PySem.Challenge.rw_brickfloor_k07_refused).prog [56]) (H := BF.hk) (ob := BF.ob) (loose := BF.looseN) (d := HandSHeadRun.topDef (OpenLaw.row PySem.Challenge.rw_brickfloor_k07_refused).prog 56) (kwd := []) BF.ob_eq
    (by kernel_rfl) (fun s => by kernel_rfl) BF.run (by kernel_rfl) (by kernel_rfl) (by kernel_rfl) (by rfl) (by first | assumption | decide +kernel) (by decide +kernel) ⟨rfl, rfl, rfl, rfl, rfl, by decide +kernel⟩ ?hw ?hc
  case hw => w_witness2
  case hc =>
    refine LamX.walk_ofTsE (l := PySem.Challenge.rw_brickfloor_k07_refused) (n := 63) (k := BF.lawLevel) (x := "_law_script") (CX := fun _ => L2.CX0) rfl (by decide) (by kernel_rfl) ⟨rfl, by decide, by decide⟩ ?F (fun _ _ _ _ _ z => z)
    intro w mg fa h Y G hmg0
    obtain ⟨K, KX, c⟩ := Y
    have hmg : mg ("law" : PySem.Str) = some (.ref fa) := by
      have e : (HandSHeadRun.topDef (OpenLaw.row PySem.Challenge.rw_brickfloor_k07_refused).prog 56).name = ("law" : PySem.Str) := by kernel_rfl
      rw [← e]
      exact hmg0
    exact ⟨K, KX, BF.law_at KX G c hmg⟩
